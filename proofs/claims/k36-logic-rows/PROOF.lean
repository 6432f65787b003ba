import PyProof.Rows.All
import Wide.All
import OpenK.AllK
import Wide.FinOn
import HandS.ForMost
import HandS.WideBits
import KE.BitLaws
import HandS.Exc
import HandS.TryOnly
import HandS.ExcOwn
import HandS.WordsExc
import HandS.WordsList
import HandS.IsInst
import HandS.ExcCtx
import HandS.Hot
import HandS.HotCalls
import HandS.ExcIs
import HandS.ExcField
import HandS.Defaults
import HandS.Flow
import HandS.Style
import HandS.TupAny
import HandS.HeadHook1
import HandS.HeadHook2
import HandS.Dict
import KE.KeyNested
import HandS.Small
import HandS.WordsDict
import KE.KDictKeyed
import PyProof.Rows.SeqRoads
import HandS.CallSlots
import KE.GoesEnum
import HandS.HeadEnd
import HandS.HeadHook3
import HandS.Head3
import HandS.Zip
import HandS.ExcInit
import HandS.Nested
import KE.KExcSuper
import KE.KExcIs
import HandS.TupMul
import HandS.Conv
import HandS.Star
import KE.KDictDisplayH
import OpenK.KOps
import KE.KDictWalk
import KE.KDictZip
import KE.GoesMore
import KE.KStar
import HandS.ExcValue
import HandS.SlotsOwn
import KE.SortData
import HandS.DictComp
import KE.KDictList
import HandS.FStr
import HandS.Text
import HandS.Iter
import KE.DatumOrd
import HandS.Head0
import HandS.Head1
import HandS.Head2
import PySem.Challenge.RW_onlycarries_k36_logic_rows
set_option Elab.async false
set_option linter.all false
set_option maxRecDepth 100000
set_option maxHeartbeats 0
/-! Plain data of a small Python, and what its expressions, statements and defs compute: total Lean functions, no program in sight. -/
namespace Py
open PySem L2
inductive D where
  | non | bl (b : Bool) | int (i : Int) | str (s : String)
  | tup (xs : List D) | lst (xs : List D) | dic (t : Bool) (kvs : List (D × D)) | ins (c : String) (fs : List (String × D)) | drw (q : Bool ⊕ (Nat × List Int))
  deriving Inhabited
/-- what code computes; pick n k: some number i up to n is drawn -/
inductive Res (α : Type) where
  | ok (a : α) | exc (c : String) (fs : List (String × D)) | stuck | pick (n : Nat) (k : Nat → Res α)
def Res.bindR {α β : Type} (f : α → Res β) : Res α → Res β
  | .ok a => f a | .exc c fs => .exc c fs | .stuck => .stuck | .pick n k => .pick n fun i => Res.bindR f (k i)
@[reducible] def Res.bind {α β : Type} (r : Res α) (f : α → Res β) : Res β := match r with
  | .ok a => f a | .exc c fs => .exc c fs | .stuck => .stuck | .pick n k => .pick n fun i => Res.bindR f (k i)
instance : Monad Res := { pure := Res.ok, bind := Res.bind }
@[simp] theorem bind_ok {α β : Type} (a : α) (f : α → Res β) : (Res.ok a >>= f) = f a := rfl
@[simp] theorem bind_exc {α β : Type} (c : String) (fs) (f : α → Res β) : ((Res.exc c fs : Res α) >>= f) = .exc c fs := rfl
@[simp] theorem bind_stuck {α β : Type} (f : α → Res β) : ((Res.stuck : Res α) >>= f) = .stuck := rfl
theorem bindR_eq {α β : Type} (f : α → Res β) (r : Res α) : Res.bindR f r = (r >>= f) := by cases r <;> rfl
@[simp] theorem bind_pick {α β : Type} (n : Nat) (k : Nat → Res α) (f : α → Res β) : (Res.pick n k >>= f) = .pick n fun i => k i >>= f := by
  show Res.pick n (fun i => Res.bindR f (k i)) = _
  congr 1
  funext i
  exact bindR_eq f (k i)
@[simp] theorem pure_ok {α : Type} (a : α) : (pure a : Res α) = .ok a := rfl
def noexc {α : Type} : Res α → Res α
  | .ok a => .ok a | .exc _ _ => .stuck | .stuck => .stuck | .pick n k => .pick n fun i => noexc (k i)
@[simp] theorem noexc_ok {α : Type} (a : α) : noexc (.ok a : Res α) = .ok a := rfl
@[simp] theorem noexc_pick {α : Type} (n : Nat) (k : Nat → Res α) : noexc (.pick n k) = .pick n fun i => noexc (k i) := rfl
/-- what is done of an error -/
def Res.catch_ {α : Type} (h : String → List (String × D) → Res α) : Res α → Res α
  | .ok a => .ok a | .exc c fs => h c fs | .stuck => .stuck | .pick n k => .pick n fun i => Res.catch_ h (k i)
@[simp] theorem catch_ok {α : Type} (h : String → List (String × D) → Res α) (a : α) : Res.catch_ h (.ok a) = .ok a := rfl
@[simp] theorem catch_exc {α : Type} (h : String → List (String × D) → Res α) (c : String) (fs) : Res.catch_ h (.exc c fs) = h c fs := rfl
@[simp] theorem catch_stuck {α : Type} (h : String → List (String × D) → Res α) : Res.catch_ h (.stuck : Res α) = .stuck := rfl
@[simp] theorem catch_pick {α : Type} (h : String → List (String × D) → Res α) (n : Nat) (k : Nat → Res α) : Res.catch_ h (.pick n k) = .pick n fun i => Res.catch_ h (k i) := rfl
def SZ : Nat := 16777216
abbrev Env := List (Option D)
abbrev EM := Env → Res D
abbrev TM := Env → Res Bool
abbrev AM := Env → Res (List D)
inductive Fl where
  | next (e : Env) | ret (d : D) | brk (e : Env) | cnt (e : Env)
abbrev SM := Env → Res Fl
/-! ### data -/
def chk (n : Nat) (d : D) : Res D := if n ≤ SZ then .ok d else .stuck
theorem chk_ok {n : Nat} {d : D} (h : n ≤ SZ) : chk n d = .ok d := if_pos h
/-- no dict or instance within, at most n deep: == walks it -/
def pl : Nat → D → Bool
  | _, .non => true
  | _, .bl _ => true
  | _, .int _ => true
  | _, .str _ => true
  | n + 1, .tup xs => xs.all (pl n)
  | n + 1, .lst xs => xs.all (pl n)
  | _, _ => false
def plain (d : D) : Bool := pl 64 d
/-- no object but a text -/
def flatD : D → Bool
  | .non => true
  | .bl _ => true
  | .int _ => true
  | .str _ => true
  | _ => false
def b2i (b : Bool) : Int := if b then 1 else 0
/-- == of plain data -/
def eqv : D → D → Bool
  | .non, .non => true
  | .bl a, .bl b => a == b
  | .bl a, .int j => b2i a == j
  | .int i, .bl b => i == b2i b
  | .int i, .int j => i == j
  | .str a, .str b => a == b
  | .tup xs, .tup ys => eqvL xs ys
  | .lst xs, .lst ys => eqvL xs ys
  | _, _ => false
where eqvL : List D → List D → Bool
  | [], [] => true
  | x :: xs, y :: ys => eqv x y && eqvL xs ys
  | _, _ => false
inductive Ty where
  | non | bl | int | str | tup | lst | dic | cls (c : String)
  deriving DecidableEq
def isI (t : Ty) : D → Bool
  | .non => decide (t = .non)
  | .bl _ => decide (t = .bl) || decide (t = .int)
  | .int _ => decide (t = .int)
  | .str _ => decide (t = .str)
  | .tup _ => decide (t = .tup)
  | .lst _ => decide (t = .lst)
  | .dic _ _ => decide (t = .dic)
  | .ins c _ => decide (t = .cls c)
  | .drw _ => decide (t = .dic)
/-! ### operators -/
def oadd : D → D → Res D
  | .int i, .int j => .ok (.int (i + j))
  | .str a, .str b => if a.length + b.length ≤ SZ then .ok (.str (a ++ b)) else .stuck
  | .tup a, .tup b => if a.length + b.length ≤ SZ then .ok (.tup (a ++ b)) else .stuck
  | .lst a, .lst b => if a.length + b.length ≤ SZ then .ok (.lst (a ++ b)) else .stuck
  | _, _ => .stuck
def osub : D → D → Res D
  | .int i, .int j => .ok (.int (i - j))
  | _, _ => .stuck
def B64 : Nat := 18446744073709551616
def omul : D → D → Res D
  | .int i, .int j => if i.natAbs < B64 ∨ j.natAbs < B64 then .ok (.int (i * j)) else .stuck
  | _, _ => .stuck
def ofdiv : D → D → Res D
  | .int i, .int j => if 0 < j ∧ j < 1073741824 then .ok (.int (i / j)) else .stuck
  | _, _ => .stuck
def omod : D → D → Res D
  | .int i, .int j => if 0 < j then .ok (.int (i % j)) else .stuck
  | _, _ => .stuck
def opow : D → D → Res D
  | .int i, .int j => if 0 ≤ j ∧ j ≤ 1000000 ∧ i.natAbs < 18446744073709551616 then .ok (.int (i ^ j.toNat)) else .stuck
  | _, _ => .stuck
def oshl : D → D → Res D
  | .int i, .int j => if 0 ≤ j ∧ (Builtin.Int.intBits i : Int) + j ≤ 134217728 then .ok (.int (i * 2 ^ j.toNat)) else .stuck
  | _, _ => .stuck
def oshr : D → D → Res D
  | .int i, .int j => if 0 ≤ j then .ok (.int (i / 2 ^ j.toNat)) else .stuck
  | _, _ => .stuck
def oand : D → D → Res D
  | .int i, .int j => .ok (.int (Builtin.bitAnd i j))
  | _, _ => .stuck
def oor : D → D → Res D
  | .int i, .int j => .ok (.int (Builtin.bitOr i j))
  | _, _ => .stuck
def oxor : D → D → Res D
  | .int i, .int j => .ok (.int (Builtin.bitXor i j))
  | _, _ => .stuck
def oneg : D → Res D
  | .int i => .ok (.int (-i))
  | _ => .stuck
def opt : Option D → Res D
  | some d => .ok d
  | none => .stuck
def tyOf : D → Ty
  | .non => .non | .bl _ => .bl | .int _ => .int | .str _ => .str | .tup _ => .tup | .lst _ => .lst | .dic _ _ => .dic | .ins c _ => .cls c | .drw _ => .dic
/-- an instance's class is among these, so is a class that is asked for -/
def inCs (cs : List String) : Ty → Bool
  | .cls c => cs.contains c
  | .dic => false
  | _ => true
def oisi (cs : List String) (ts : List Ty) (d : D) : Res D := if inCs cs (tyOf d) && ts.all (fun t => inCs cs t && decide (t ≠ .non)) then .ok (.bl (ts.any fun t => isI t d)) else .stuck
def oattr (cs : List String) (f : String) : D → Res D
  | .ins c fs => if cs.contains c then opt (fs.lookup f) else .stuck
  | _ => .stuck
def olt : D → D → Res D
  | .int i, .int j => .ok (.bl (decide (i < j)))
  | _, _ => .stuck
def ole : D → D → Res D
  | .int i, .int j => .ok (.bl (decide (i ≤ j)))
  | _, _ => .stuck
def ogt : D → D → Res D
  | .int i, .int j => .ok (.bl (decide (j < i)))
  | _, _ => .stuck
def oge : D → D → Res D
  | .int i, .int j => .ok (.bl (decide (j ≤ i)))
  | _, _ => .stuck
def oeq (x y : D) : Res D := if plain x && plain y then .ok (.bl (eqv x y)) else .stuck
def one (x y : D) : Res D := if plain x && plain y then .ok (.bl (!eqv x y)) else .stuck
/-- x in ys -/
def mem (x : D) : List D → Bool
  | [] => false
  | y :: r => eqv y x || mem x r
/-- numbers, texts, None and tuples of such, at most n deep -/
def hk : Nat → D → Bool
  | _, .non => true
  | _, .bl _ => true
  | _, .int _ => true
  | _, .str _ => true
  | n + 1, .tup xs => xs.all (hk n)
  | _, _ => false
/-- a key of a dict; t: its keys are tuples -/
def keyOk : Bool → D → Bool
  | false, .int _ => true
  | false, .str _ => true
  | true, .tup xs => hk 8 (.tup xs)
  | _, _ => false
def find (k : D) : List (D × D) → Option D
  | [] => none
  | (a, v) :: r => if eqv a k then some v else find k r
/-- d[k] = v -/
def putD (k v : D) : List (D × D) → List (D × D)
  | [] => [(k, v)]
  | (a, x) :: r => if eqv a k then (a, v) :: r else (a, x) :: putD k v r
def oin : D → D → Res D
  | x, .lst ys => if flatD x && ys.all flatD then .ok (.bl (mem x ys)) else .stuck
  | x, .tup ys => if flatD x && ys.all flatD then .ok (.bl (mem x ys)) else .stuck
  | x, .dic t kvs => if keyOk t x then .ok (.bl (find x kvs).isSome) else .stuck
  | _, _ => .stuck
def onotin : D → D → Res D
  | x, .lst ys => if flatD x && ys.all flatD then .ok (.bl (!mem x ys)) else .stuck
  | x, .tup ys => if flatD x && ys.all flatD then .ok (.bl (!mem x ys)) else .stuck
  | x, .dic t kvs => if keyOk t x then .ok (.bl (!(find x kvs).isSome)) else .stuck
  | _, _ => .stuck
def isNon : D → Bool
  | .non => true
  | _ => false
def oisN (x : D) : Res D := .ok (.bl (isNon x))
def truthy : D → Res Bool
  | .non => .ok false
  | .bl b => .ok b
  | .int i => .ok (i != 0)
  | .str s => if s.length ≤ SZ then .ok (s.length != 0) else .stuck
  | .tup xs => .ok (!xs.isEmpty)
  | .lst xs => .ok (!xs.isEmpty)
  | _ => .stuck
def onb : D → Res D
  | .bl k => .ok (.bl (!k))
  | _ => .stuck
/-! ### subscripts -/
def oidx : D → D → Res D
  | .lst xs, .int i => opt (atI xs i)
  | .tup xs, .int i => opt (atI xs i)
  | .str s, .int i => if s.length ≤ SZ then opt ((atI s.toList i).map fun c => .str (String.ofList [c])) else .stuck
  | .dic t kvs, k => if keyOk t k then opt (find k kvs) else .stuck
  | _, _ => .stuck
/-- the items from lo up to hi -/
def cut {α : Type} (xs : List α) (lo hi : Option Int) : List α := (xs.drop (HT.sIx xs.length 0 lo)).take (HT.sIx xs.length xs.length hi - HT.sIx xs.length 0 lo)
def oslc : D → Option Int → Option Int → Res D
  | .lst xs, lo, hi => .ok (.lst (cut xs lo hi))
  | .tup xs, lo, hi => .ok (.tup (cut xs lo hi))
  | .str s, lo, hi => if s.length ≤ SZ then .ok (.str (String.ofList (cut s.toList lo hi))) else .stuck
  | _, _, _ => .stuck
/-! ### a table of the module: texts to numbers -/
def onothas (tab : List (String × Int)) : D → Res D
  | .str s => .ok (.bl (!(tab.lookup s).isSome))
  | _ => .stuck
def olook (tab : List (String × Int)) : D → Res D
  | .str s => opt ((tab.lookup s).map D.int)
  | _ => .stuck
/-! ### built-in calls -/
def blen : D → Res D
  | .lst xs => .ok (.int xs.length)
  | .tup xs => .ok (.int xs.length)
  | .str s => if s.length ≤ SZ then .ok (.int s.length) else .stuck
  | .dic _ kvs => .ok (.int kvs.length)
  | _ => .stuck
def bint : D → Res D
  | .int i => .ok (.int i)
  | .bl b => .ok (.int (b2i b))
  | _ => .stuck
def btuple : D → Res D
  | .lst xs => .ok (.tup xs)
  | .tup xs => .ok (.tup xs)
  | _ => .stuck
def blist : D → Res D
  | .lst xs => .ok (.lst xs)
  | .tup xs => .ok (.lst xs)
  | _ => .stuck
def intsOf : List D → Option (List Int)
  | [] => some []
  | .int i :: r => (intsOf r).map (i :: ·)
  | _ :: _ => none
def boolsOf : List D → Option (List Bool)
  | [] => some []
  | .bl i :: r => (boolsOf r).map (i :: ·)
  | _ :: _ => none
def ball : D → Res D
  | .lst xs => match boolsOf xs with | some bs => .ok (.bl (bs.all id)) | none => .stuck
  | _ => .stuck
def bmax2 : D → D → Res D
  | .int i, .int j => .ok (.int (if j > i then j else i))
  | _, _ => .stuck
def bmin2 : D → D → Res D
  | .int i, .int j => .ok (.int (if j < i then j else i))
  | _, _ => .stuck
/-- max and min of a list of numbers -/
def bmaxL : D → Res D
  | .lst xs => match intsOf xs with | some (i :: is) => .ok (.int (is.foldl (fun a b => if b > a then b else a) i)) | _ => .stuck
  | _ => .stuck
/-! ### expressions -/
def var (i : Nat) : EM := fun e => match e[i]? with | some (some d) => .ok d | _ => .stuck
def cst (d : D) : EM := fun _ => .ok d
def un (f : D → Res D) (a : EM) : EM := fun e => a e >>= f
def bin (f : D → D → Res D) (a b : EM) : EM := fun e => a e >>= fun x => b e >>= fun y => f x y
def argN : AM := fun _ => .ok []
def argC (a : EM) (r : AM) : AM := fun e => a e >>= fun x => r e >>= fun xs => .ok (x :: xs)
def tupE (a : AM) : EM := fun e => a e >>= fun xs => chk xs.length (.tup xs)
def lstE (a : AM) : EM := fun e => a e >>= fun xs => chk xs.length (.lst xs)
/-- {} and {k: v} -/
def dic0 (t : Bool) : EM := fun _ => .ok (.dic t [])
def dic1 (t : Bool) (a b : EM) : EM := fun e => a e >>= fun k => b e >>= fun v => if keyOk t k then .ok (.dic t [(k, v)]) else .stuck
/-- x and y, x or y as values, x a truth -/
def andE (a b : EM) : EM := fun e => a e >>= fun x => match x with | .bl true => b e | .bl false => .ok (.bl false) | _ => .stuck
def orE (a b : EM) : EM := fun e => a e >>= fun x => match x with | .bl false => b e | .bl true => .ok (.bl true) | _ => .stuck
/-- a < b < c -/
def chain (f g : D → D → Res D) (a b c : EM) : EM := fun e => a e >>= fun x => b e >>= fun y => f x y >>= fun z => match z with
  | .bl true => c e >>= fun u => g y u
  | .bl false => .ok (.bl false)
  | _ => .stuck
def tst (a : EM) : TM := fun e => a e >>= truthy
def andT (a b : TM) : TM := fun e => a e >>= fun x => if x then b e else .ok false
def orT (a b : TM) : TM := fun e => a e >>= fun x => if x then .ok true else b e
def notT (a : TM) : TM := fun e => a e >>= fun x => .ok (!x)
def ifE (t : TM) (a b : EM) : EM := fun e => t e >>= fun x => if x then a e else b e
def slc (a : EM) (lo hi : Option EM) : EM := fun e => a e >>= fun x => bnd lo e >>= fun i => bnd hi e >>= fun j => oslc x i j
where bnd : Option EM → Env → Res (Option Int)
  | none, _ => .ok none
  | some m, e => m e >>= fun d => match d with | .int i => .ok (some i) | _ => .stuck
def call (f : List D → Res D) (a : AM) : EM := fun e => a e >>= f
/-! what is walked -/
abbrev IM := Env → Res (List D)
def iseq (a : EM) : IM := fun e => a e >>= fun x => match x with | .lst xs => .ok xs | .tup xs => .ok xs | _ => .stuck
def B62 : Nat := 4611686018427387904
def rngL (lo hi : Int) : List D := (List.range (hi - lo).toNat).map fun i => .int (lo + (i : Nat))
def irng1 (a : EM) : IM := fun e => a e >>= fun x => match x with
  | .int n => if n.natAbs < B62 then .ok (rngL 0 n) else .stuck
  | _ => .stuck
def enumL (n : Nat) : List D → List D
  | [] => []
  | d :: r => .tup [.int n, d] :: enumL (n + 1) r
def ienum (a : EM) : IM := fun e => iseq a e >>= fun xs => .ok (enumL 0 xs)
def seqOf : D → Option (Bool × List D)
  | .lst xs => some (false, xs)
  | .tup xs => some (true, xs)
  | _ => none
/-- range(a, b, c), c above 0 -/
def cnt3 (lo hi c : Int) : Nat := if 0 < c then ((hi - lo + c - 1) / c).toNat else (lo - hi).toNat
def rng3L (lo hi c : Int) : List D := (List.range (cnt3 lo hi c)).map fun i => .int (lo + (i : Nat) * c)
def irng3 (a b c : EM) : IM := fun e => a e >>= fun x => b e >>= fun y => c e >>= fun z => match x, y, z with
  | .int m, .int n, .int k => if m.natAbs < B62 ∧ n.natAbs < B62 ∧ (0 < k ∨ k = -1) ∧ k.natAbs < 1073741824 then .ok (rng3L m n k) else .stuck
  | _, _, _ => .stuck
/-- list(range(..)) -/
def lrngE (it : IM) : EM := fun e => it e >>= fun xs => if xs.length ≤ 1000000 then .ok (.lst xs) else .stuck
/-- .., *a, .. -/
def argS (a : EM) (r : AM) : AM := fun e => a e >>= fun x => match seqOf x with
  | some (_, xs) => r e >>= fun ys => .ok (xs ++ ys)
  | none => .stuck
/-! targets -/
def lift {α : Type} : Option α → Res α
  | some a => .ok a
  | none => .stuck
@[simp] theorem lift_some {α : Type} (a : α) : lift (some a) = .ok a := rfl
@[simp] theorem lift_none {α : Type} : lift (none : Option α) = .stuck := rfl
abbrev GM := D → Env → Option Env
def gnm (i : Nat) : GM := fun d e => some (e.set i (some d))
def gtupL : List GM → List D → Env → Option Env
  | [], [], e => some e
  | g :: gs, d :: ds, e => (g d e).bind (gtupL gs ds)
  | _, _, _ => none
def gtup (gs : List GM) : GM := fun d e => match d with | .tup xs => gtupL gs xs e | _ => none
/-! comprehensions -/
def wipe (e : Env) : List Nat → Env
  | [] => e
  | i :: r => (wipe e r).set i none
def compL (f : D → Res (Option D)) : List D → Res (List D)
  | [] => .ok []
  | x :: xs => f x >>= fun o => compL f xs >>= fun ys => .ok (match o with | some y => y :: ys | none => ys)
def yes : TM := fun _ => .ok true
def compF (vs : List Nat) (g : GM) (t : TM) (elt : EM) (e : Env) (x : D) : Res (Option D) :=
  lift (g x (wipe e vs)) >>= fun e1 => t e1 >>= fun b => if b then elt e1 >>= fun y => .ok (some y) else .ok none
def lcE (it : IM) (vs : List Nat) (g : GM) (t : TM) (elt : EM) : EM := fun e => it e >>= fun xs =>
  noexc (compL (compF vs g t elt e) xs) >>= fun ys => chk xs.length (.lst ys)
/-! ### statements -/
def seq (a b : SM) : SM := fun e => a e >>= fun f => match f with | .next e' => b e' | r => .ok r
def skip : SM := fun e => .ok (.next e)
def asg (g : GM) (m : EM) : SM := fun e => m e >>= fun d => lift (g d e) >>= fun e' => .ok (.next e')
def aug (i : Nat) (f : D → D → Res D) (m : EM) : SM := fun e => var i e >>= fun x => m e >>= fun y => f x y >>= fun z => .ok (.next (e.set i (some z)))
def drop (m : EM) : SM := fun e => m e >>= fun _ => .ok (.next e)
def ret (m : EM) : SM := fun e => m e >>= fun d => .ok (.ret d)
def retN : SM := fun _ => .ok (.ret .non)
def ite (t : TM) (a b : SM) : SM := fun e => t e >>= fun x => if x then a e else b e
def brk : SM := fun e => .ok (.brk e)
def cnt : SM := fun e => .ok (.cnt e)
def forL (body : D → Env → Res Fl) : List D → Env → Res Fl
  | [], e => .ok (.next e)
  | x :: xs, e => body x e >>= fun fl => match fl with
    | .next e' => forL body xs e'
    | .cnt e' => forL body xs e'
    | .brk e' => .ok (.next e')
    | .ret d => .ok (.ret d)
def forB (g : GM) (body : SM) (x : D) (e : Env) : Res Fl := lift (g x e) >>= body
def for_ (it : IM) (g : GM) (body : SM) : SM := fun e => it e >>= fun xs => forL (forB g body) xs e
def FUEL : Nat := 1000000000000
def whileL (t : TM) (body : SM) : Nat → Env → Res Fl
  | 0, _ => .stuck
  | n + 1, e => t e >>= fun b => if b then (body e >>= fun fl => match fl with
      | .next e' => whileL t body n e'
      | .cnt e' => whileL t body n e'
      | .brk e' => .ok (.next e')
      | .ret d => .ok (.ret d)) else .ok (.next e)
def while_ (t : TM) (body : SM) : SM := whileL t body FUEL
/-- a name's own list grows -/
def app (i : Nat) (m : EM) : SM := fun e => var i e >>= fun l => match l with
  | .lst xs => m e >>= fun d => if xs.length < SZ then .ok (.next (e.set i (some (.lst (xs ++ [d]))))) else .stuck
  | _ => .stuck
/-- xs[j] = v of a name's own list or dict -/
def setL (i : Nat) (j m : EM) : SM := fun e => var i e >>= fun l => match l with
  | .lst xs => m e >>= fun d => j e >>= fun k => match k with
    | .int z => match ixN xs.length z with
      | some n => .ok (.next (e.set i (some (.lst (xs.set n d)))))
      | none => .stuck
    | _ => .stuck
  | .dic t kvs => m e >>= fun d => j e >>= fun k => if keyOk t k && decide (kvs.length < SZ) then .ok (.next (e.set i (some (.dic t (putD k d kvs))))) else .stuck
  | _ => .stuck
/-- x.extend(y) of a name's own list -/
def ext (i : Nat) (m : EM) : SM := fun e => var i e >>= fun l => match l with
  | .lst xs => m e >>= fun d => match d with
    | .lst ys => if xs.length + ys.length ≤ SZ then .ok (.next (e.set i (some (.lst (xs ++ ys))))) else .stuck
    | _ => .stuck
  | _ => .stuck
def putF (f : String) (d : D) : List (String × D) → List (String × D)
  | [] => [(f, d)]
  | (g, x) :: r => if g = f then (f, d) :: r else (g, x) :: putF f d r
/-- self.f = v in an __init__ -/
def setF (i : Nat) (cs : List String) (f : String) (m : EM) : SM := fun e => var i e >>= fun o => match o with
  | .ins c fs => if cs.contains c ∧ fs.length < 1000 then m e >>= fun d => .ok (.next (e.set i (some (.ins c (putF f d fs))))) else .stuck
  | _ => .stuck
/-- raise C(..) -/
def rais (c : String) (ns : List String) (a : AM) : SM := fun e => a e >>= fun ds => if ds.length = ns.length then .exc c (ns.zip ds).reverse else .stuck
/-- the arguments in the parameters' order -/
def perm {α : Type} (π : List Nat) (ws : List α) : List α := π.filterMap fun i => ws[i]?
def kwc (n : Nat) (π : List Nat) (f : List D → Res D) (ds : List D) : Res D := if ds.length = n then f (perm π ds) else .stuck
def thru (m : SM) : SM := fun e => noexc (m e)
/-! ### errors that are caught -/
/-! ### defs -/
def doneF (fl : Fl) : Res D := match fl with
  | .next _ => .ok .non
  | .ret d => .ok d
  | .brk _ => .stuck
  | .cnt _ => .stuck
def done (r : Res Fl) : Res D := r >>= doneF
/-- a def of p parameters and n names -/
def fn (p n : Nat) (body : SM) (ds : List D) : Res D := if ds.length = p then done (body (ds.map some ++ List.replicate (n - p) none)) else .stuck
def madeF (cls : String) (fl : Fl) : Res D := match fl with
  | .next (some (.ins c fs) :: _) => .ok (.ins c fs)
  | _ => .stuck
def made (p n : Nat) (cls : String) (body : SM) (ds : List D) : Res D := if ds.length + 1 = p then
  body ((some (.ins cls []) :: ds.map some) ++ List.replicate (n - p) none) >>= madeF cls else .stuck
end Py
namespace Py
open PySem PySem.Spec PyProof.Rows L2
open He (Fa DefD Tab FnW)
open He
abbrev Frag := PySem.W.Frag
def ca (K : Frag) (c : String) : Addr := He.ga K (Str.ofString c)
def tyNames : List String := ["NoneType", "bool", "int", "str", "tuple", "list", "dict"]
def kitB (K : Frag) (cs : List String) : Bool :=
  cs.all fun c => (He.Fa.cls (Str.ofString c)).ok K
    && (decide (PySem.W.findIn K (.ref (ca K c)) "__class__" = some (some (.builtin "object.__class__")))
    && (decide (PySem.W.specialIn K (.builtin "object.__class__") "__get__" = some (some (.builtin "getset_descriptor.__get__")))
    && (decide (PySem.W.takesIn K (.builtin "object.__class__") = some true)
    && (decide (PySem.W.mroIn K (ca K c) (.type "object") = some true)
    && (cs.all (fun d => decide (PySem.W.kitOne K (.ref (ca K c)) (.ref (ca K d)) = some (decide (c = d))))
    && tyNames.all fun T => decide (PySem.W.kitOne K (.ref (ca K c)) (.type T) = some false) && decide (PySem.W.kitOne K (.type T) (.ref (ca K c)) = some false))))))
def notList (o : Obj) : Bool := match o.cls with
  | .type c => !(decide (c = "list"))
  | _ => true
def noL (K : Frag) : Bool := K.all fun q => notList q.2
def attB (cs : List String) (f : String) (K : Frag) : Bool := cs.all fun c => (Fa.cls (Str.ofString c)).ok K && (Fa.noat (Str.ofString c) (Str.ofString f)).ok K
def kitC (cs : List String) (K : Frag) : Bool := kitB K cs
def tabB (x : String) (tab : List (String × Int)) (K : Frag) : Bool := He.valsB K (He.ga K (Str.ofString x)) (tab.map fun q => (Str.ofString q.1, He.Dv.int q.2))
def tabT (x : String) (tab : List (String × Int)) : Tab := (fun K => He.ga K (Str.ofString x), tab.map fun q => Str.ofString q.1)
def fnWx (K : Frag) (p : Str × Option Str) : FnW := match K.lookup (He.fAd K p) with
  | some ⟨_, _, .func fd, _⟩ => some (fd.name, fd.qualname, fd.params, fd.body, fd.scope, fd.globals, [], fd.builtins)
  | _ => none
def cloB (file : Str) (c : String) (q : Str) (K : Frag) : Bool := match K.lookup (He.ma K (ca K c) "__init__") with
  | some ⟨_, _, .func fd, _⟩ => (match fd.code, fd.closure with
    | .ref cda, [(y, cc)] => decide (y = ("__class__" : Str)) && (decide (fd.defaults = .none) && (PySem.W.codeIn K (.ref cda) q &&
      ((match K.lookup cc with | some ⟨_, _, .cell (some (.ref D)), _⟩ => decide (D = ca K c) | _ => false) &&
        (match K.lookup cda with | some ⟨_, _, .fields vs, _⟩ => (match (vs[2]? : Option Value) with | some (.str z _) => decide (z = file) | _ => false) | _ => false))))
    | _, _ => false)
  | _ => false
def oexB (c : String) (K : Frag) : Bool := match K.lookup (ca K c) with
  | some ⟨.type "type", _, .cls cd, sl⟩ => (match cd.mro, sl.toList with
    | .ref C' :: bm, [_, _, _, _, some (.builtin n), _] => decide (C' = ca K c) && (decide (n = "ValueError.__new__") && (cd.hasDict && (!cd.hasDel && PySem.HandSPX.refsVE bm)))
    | _, _ => false)
  | _ => false
def errB (file : Str) (c : String) (q : Str) (fs : List String) (K : Frag) : Bool := cloB file c q K && (oexB c K &&
  (decide (PySem.W.findIn K (.ref (ca K c)) "__setattr__" = some (some (.builtin "object.__setattr__"))) && (decide (PySem.W.subIn K (.ref (ca K c)) (.type "BaseException") = some true) &&
  (decide (PySem.W.typeIn K (.ref (ca K c)) = some (.type "type")) && (PySem.W.keepIn K (.ref (ca K c)) &&
  (decide (PySem.W.ks_superIn K (ca K c) (ca K c) "__init__" = some (some (.builtin "ValueError.__init__"))) && (decide (PySem.W.subIn K (.ref (ca K c)) (.type "ValueError") = some true) &&
  (decide (PySem.W.mroIn K (ca K c) (.ref (ca K c)) = some true) && (decide (PySem.W.nsIn K cStatics "thirdparty.any" = some none) &&
  (decide (PySem.W.findIn K (.ref (ca K c)) "__init__" = some (some (.ref (He.ma K (ca K c) "__init__")))) && (decide (PySem.W.typeIn K (.ref (He.ma K (ca K c) "__init__")) = some (.type "function")) &&
  fs.all fun f => decide (PySem.W.findIn K (.ref (ca K c)) (Str.ofString f) = some none))))))))))))
abbrev AlY : Type := AlT × Bool × List FnW
def obsY (more : Frag → Bool) (fa : List Fa) (fn xf : List DefD) (ts : List Tab) (K : Frag) : AlY := (obsT fa fn ts K, more K, xf.map fun d => fnWx K d.at_)
def valY (fn xf : List DefD) (ts : List Tab) (w : World) : AlY := (valT fn ts w, true, xf.map DefD.val)
def frcN {α : Type} (n : Nat) (k : Nat → α) : α := match n with
  | 0 => k 0
  | m + 1 => k (m + 1)
def visE {α : Type} (k : Nat → List Addr → α) : List Addr → Nat → List Addr → α
  | [], m, acc => k m acc
  | b :: r, m, acc => frcN b fun b => match Nat.land (Nat.shiftRight m b) 1 with
    | 0 => frcN (Nat.lor m (Nat.shiftLeft 1 b)) fun m2 => visE k r m2 (b :: acc)
    | _ + 1 => visE k r m acc
def levE {α : Type} (g : Addr → Option Obj) (k : Nat → List Addr → α) : List Addr → Nat → List Addr → α
  | [], m, acc => k m acc
  | a :: r, m, acc => match g a with
    | some o => visE (fun m acc => levE g k r m acc) (refsD o) m acc
    | none => levE g k r m acc
def bfsE (g : Addr → Option Obj) : Nat → List Addr → Nat → List Addr → List Addr
  | 0, fr, _, all => all ++ fr
  | n + 1, fr, m, all => levE g (fun m new => bfsE g n new.reverse m (all ++ fr)) fr m []
def asE (g : Addr → Option Obj) (n : Nat) : List Addr := bfsE g n [mainGlobals] (Nat.shiftLeft 1 mainGlobals) []
def obsYG (n : Nat) (more : Frag → Bool) (fa : List Fa) (fn xf : List DefD) (ts : List Tab) (g : Addr → Option Obj) : AlY := obsY more fa fn xf ts (frG g (cStatics :: asE g n))
def hookY (n : Nat) (more : Frag → Bool) (fa : List Fa) (fn xf : List DefD) (ts : List Tab) : PySem.W.Hook where
  α := AlY
  obs := fun s => obsYG n more fa fn xf ts s.heap.get?
  val := fun w => valY fn xf ts w
  says := fun w h => ∃ K : PySem.W.Frag, K.In h ∧ SaysT fa fn ts w K ∧ more K = true ∧ (xf.map fun d => fnWx K d.at_) = xf.map DefD.val
  of := fun w s e => by
    have e1 : obsY more fa fn xf ts (frG s.heap.get? (cStatics :: asE s.heap.get? n)) = valY fn xf ts w := e
    unfold obsY valY at e1
    obtain ⟨e2, e3⟩ := Prod.mk.inj e1
    obtain ⟨e4, e5⟩ := Prod.mk.inj e3
    exact ⟨_, frG_in, e2, e4, e5⟩
  keeps := fun _ _ _ ⟨K, hK, c, m⟩ k => ⟨K, PySem.W.Frag.In.keeps hK k, c, m⟩
end Py
namespace Py
open PySem PySem.Spec PyProof.Rows L2
abbrev CS : List String := ["Row", "Builder", "Machine"]
def tab_SIZES : List (String × Int) := [("zero", 0), ("ones", 0), ("not", 1), ("and", 2), ("or", 2), ("xor", 2), ("shift", 1), ("minus", 1), ("add", 2), ("sub", 2)]
def top (i : Nat) : Stmt := PySem.Challenge.pw_onlycarries_k36_logic_rows.main.body.getD i (.Pass ⟨0, 0, 0, 0⟩)
abbrev st_is_integer : Stmt := top 2
abbrev sc_is_integer : Scope := defScope st_is_integer
abbrev N_is_integer : List Str := ["value"]
abbrev d_is_integer : He.DefD := ⟨("is_integer", none), "is_integer", "is_integer", defArgs st_is_integer, defBody st_is_integer, sc_is_integer, [], []⟩
abbrev st_is_inputs : Stmt := top 4
abbrev sc_is_inputs : Scope := defScope st_is_inputs
abbrev N_is_inputs : List Str := ["value"]
abbrev d_is_inputs : He.DefD := ⟨("is_inputs", none), "is_inputs", "is_inputs", defArgs st_is_inputs, defBody st_is_inputs, sc_is_inputs, [], []⟩
abbrev st_as_tuple : Stmt := top 5
abbrev sc_as_tuple : Scope := defScope st_as_tuple
abbrev N_as_tuple : List Str := ["value"]
abbrev d_as_tuple : He.DefD := ⟨("as_tuple", none), "as_tuple", "as_tuple", defArgs st_as_tuple, defBody st_as_tuple, sc_as_tuple, [], []⟩
abbrev st_is_below : Stmt := top 6
abbrev sc_is_below : Scope := defScope st_is_below
abbrev N_is_below : List Str := ["value", "limit"]
abbrev d_is_below : He.DefD := ⟨("is_below", none), "is_below", "is_below", defArgs st_is_below, defBody st_is_below, sc_is_below, [], []⟩
abbrev st_is_line : Stmt := top 32
abbrev sc_is_line : Scope := defScope st_is_line
abbrev N_is_line : List Str := ["value", "many", "limit", "member"]
abbrev d_is_line : He.DefD := ⟨("is_line", none), "is_line", "is_line", defArgs st_is_line, defBody st_is_line, sc_is_line, [], []⟩
abbrev st_right_nexts : Stmt := top 33
abbrev sc_right_nexts : Scope := defScope st_right_nexts
abbrev N_right_nexts : List Str := ["value", "letters", "lines", "state", "line"]
abbrev d_right_nexts : He.DefD := ⟨("right_nexts", none), "right_nexts", "right_nexts", defArgs st_right_nexts, defBody st_right_nexts, sc_right_nexts, [], []⟩
abbrev st_right_outs : Stmt := top 34
abbrev sc_right_outs : Scope := defScope st_right_outs
abbrev N_right_outs : List Str := ["value", "letters", "states", "lines", "shared", "state"]
abbrev d_right_outs : He.DefD := ⟨("right_outs", none), "right_outs", "right_outs", defArgs st_right_outs, defBody st_right_outs, sc_right_outs, [], []⟩
abbrev st_Machine_init : Stmt := inClass (top 35) 0
abbrev sc_Machine_init : Scope := defScope st_Machine_init
abbrev N_Machine_init : List Str := ["self", "inputs", "nexts", "outs", "letters"]
abbrev d_Machine_init : He.DefD := ⟨("Machine", some "__init__"), "__init__", "Machine.__init__", defArgs st_Machine_init, defBody st_Machine_init, sc_Machine_init, [], []⟩
abbrev st__law_take : Stmt := top 45
abbrev sc__law_take : Scope := defScope st__law_take
abbrev N__law_take : List Str := ["draw", "many", "cell", "told", "mixed"]
abbrev d__law_take : He.DefD := ⟨("_law_take", none), "_law_take", "_law_take", defArgs st__law_take, defBody st__law_take, sc__law_take, [], []⟩
abbrev st__law_machine : Stmt := top 46
abbrev sc__law_machine : Scope := defScope st__law_machine
abbrev N__law_machine : List Str := ["draw", "letters", "pick", "size", "outs", "at", "x", "names", "k", "nexts", "many", "rows", "s", "homes", "t"]
abbrev d__law_machine : He.DefD := ⟨("_law_machine", none), "_law_machine", "_law_machine", defArgs st__law_machine, defBody st__law_machine, sc__law_machine, [], []⟩
abbrev st__law_bit : Stmt := top 50
abbrev sc__law_bit : Scope := defScope st__law_bit
abbrev N__law_bit : List Str := ["row", "letter", "bits", "deed", "i"]
abbrev d__law_bit : He.DefD := ⟨("_law_bit", none), "_law_bit", "_law_bit", defArgs st__law_bit, defBody st__law_bit, sc__law_bit, [], []⟩
abbrev st__law_integer : Stmt := top 44
abbrev sc__law_integer : Scope := defScope st__law_integer
abbrev N__law_integer : List Str := ["value"]
abbrev d__law_integer : He.DefD := ⟨("_law_integer", none), "_law_integer", "_law_integer", defArgs st__law_integer, defBody st__law_integer, sc__law_integer, [], []⟩
abbrev st__law_numbers : Stmt := top 48
abbrev sc__law_numbers : Scope := defScope st__law_numbers
abbrev N__law_numbers : List Str := ["values", "most", "k"]
abbrev d__law_numbers : He.DefD := ⟨("_law_numbers", none), "_law_numbers", "_law_numbers", defArgs st__law_numbers, defBody st__law_numbers, sc__law_numbers, [], []⟩
abbrev st__law_good_row : Stmt := top 49
abbrev sc__law_good_row : Scope := defScope st__law_good_row
abbrev N__law_good_row : List Str := ["found", "inputs", "many", "ahead", "deed"]
abbrev d__law_good_row : He.DefD := ⟨("_law_good_row", none), "_law_good_row", "_law_good_row", defArgs st__law_good_row, defBody st__law_good_row, sc__law_good_row, [], []⟩
abbrev st__law_one_state : Stmt := top 47
abbrev sc__law_one_state : Scope := defScope st__law_one_state
abbrev N__law_one_state : List Str := ["nexts", "outs", "met", "line", "at", "t"]
abbrev d__law_one_state : He.DefD := ⟨("_law_one_state", none), "_law_one_state", "_law_one_state", defArgs st__law_one_state, defBody st__law_one_state, sc__law_one_state, [], []⟩
abbrev st__law_right : Stmt := top 51
abbrev sc__law_right : Scope := defScope st__law_right
abbrev N__law_right : List Str := ["found", "inputs", "nexts", "outs", "x"]
abbrev d__law_right : He.DefD := ⟨("_law_right", none), "_law_right", "_law_right", defArgs st__law_right, defBody st__law_right, sc__law_right, [], []⟩
abbrev st_Builder_init : Stmt := inClass (top 27) 0
abbrev sc_Builder_init : Scope := defScope st_Builder_init
abbrev N_Builder_init : List Str := ["self", "inputs"]
abbrev d_Builder_init : He.DefD := ⟨("Builder", some "__init__"), "__init__", "Builder.__init__", defArgs st_Builder_init, defBody st_Builder_init, sc_Builder_init, [], []⟩
abbrev st_Builder_put : Stmt := inClass (top 27) 1
abbrev sc_Builder_put : Scope := defScope st_Builder_put
abbrev N_Builder_put : List Str := ["self", "deed"]
abbrev d_Builder_put : He.DefD := ⟨("Builder", some "put"), "put", "Builder.put", defArgs st_Builder_put, defBody st_Builder_put, sc_Builder_put, [], []⟩
abbrev st_Builder_ones : Stmt := inClass (top 27) 3
abbrev sc_Builder_ones : Scope := defScope st_Builder_ones
abbrev N_Builder_ones : List Str := ["self"]
abbrev d_Builder_ones : He.DefD := ⟨("Builder", some "ones"), "ones", "Builder.ones", defArgs st_Builder_ones, defBody st_Builder_ones, sc_Builder_ones, [], []⟩
abbrev st_are_values : Stmt := top 18
abbrev sc_are_values : Scope := defScope st_are_values
abbrev N_are_values : List Str := ["numbers", "many", "number"]
abbrev d_are_values : He.DefD := ⟨("are_values", none), "are_values", "are_values", defArgs st_are_values, defBody st_are_values, sc_are_values, [], []⟩
abbrev st_is_count_deed : Stmt := top 19
abbrev sc_is_count_deed : Scope := defScope st_is_count_deed
abbrev N_is_count_deed : List Str := ["value", "many", "modulus", "rest", "parts"]
abbrev d_is_count_deed : He.DefD := ⟨("is_count_deed", none), "is_count_deed", "is_count_deed", defArgs st_is_count_deed, defBody st_is_count_deed, sc_is_count_deed, [], []⟩
abbrev st_is_deed : Stmt := top 20
abbrev sc_is_deed : Scope := defScope st_is_deed
abbrev N_is_deed : List Str := ["value", "many"]
abbrev d_is_deed : He.DefD := ⟨("is_deed", none), "is_deed", "is_deed", defArgs st_is_deed, defBody st_is_deed, sc_is_deed, [], []⟩
abbrev st_Row_init : Stmt := inClass (top 25) 0
abbrev sc_Row_init : Scope := defScope st_Row_init
abbrev N_Row_init : List Str := ["self", "inputs", "deeds", "out", "kept", "place", "deed"]
abbrev d_Row_init : He.DefD := ⟨("Row", some "__init__"), "__init__", "Row.__init__", defArgs st_Row_init, defBody st_Row_init, sc_Row_init, [], []⟩
abbrev st_values_within : Stmt := top 21
abbrev sc_values_within : Scope := defScope st_values_within
abbrev N_values_within : List Str := ["deed"]
abbrev d_values_within : He.DefD := ⟨("values_within", none), "values_within", "values_within", defArgs st_values_within, defBody st_values_within, sc_values_within, [], []⟩
abbrev st_with_values : Stmt := top 22
abbrev sc_with_values : Scope := defScope st_with_values
abbrev N_with_values : List Str := ["deed", "numbers"]
abbrev d_with_values : He.DefD := ⟨("with_values", none), "with_values", "with_values", defArgs st_with_values, defBody st_with_values, sc_with_values, [], []⟩
abbrev st_Builder_row : Stmt := inClass (top 27) 17
abbrev sc_Builder_row : Scope := defScope st_Builder_row
abbrev N_Builder_row : List Str := ["self", "out", "needed", "number", "value", "places", "deeds", "at", "deed", "i"]
abbrev d_Builder_row : He.DefD := ⟨("Builder", some "row"), "row", "Builder.row", defArgs st_Builder_row, defBody st_Builder_row, sc_Builder_row, [], []⟩
abbrev st_numbered : Stmt := top 37
abbrev sc_numbered : Scope := defScope st_numbered
abbrev N_numbered : List Str := ["keys", "seen", "places", "key"]
abbrev d_numbered : He.DefD := ⟨("numbered", none), "numbered", "numbered", defArgs st_numbered, defBody st_numbered, sc_numbered, [], []⟩
abbrev st_state_classes : Stmt := top 38
abbrev sc_state_classes : Scope := defScope st_state_classes
abbrev N_state_classes : List Str := ["machine", "places", "keys", "state", "line", "finer", "goal"]
abbrev d_state_classes : He.DefD := ⟨("state_classes", none), "state_classes", "state_classes", defArgs st_state_classes, defBody st_state_classes, sc_state_classes, [], []⟩
abbrev st_least_machine : Stmt := top 39
abbrev sc_least_machine : Scope := defScope st_least_machine
abbrev N_least_machine : List Str := ["machine", "places", "chosen", "numbers", "nexts", "line", "goal", "state"]
abbrev d_least_machine : He.DefD := ⟨("least_machine", none), "least_machine", "least_machine", defArgs st_least_machine, defBody st_least_machine, sc_least_machine, [], []⟩
abbrev st_Builder_zero : Stmt := inClass (top 27) 2
abbrev sc_Builder_zero : Scope := defScope st_Builder_zero
abbrev N_Builder_zero : List Str := ["self"]
abbrev d_Builder_zero : He.DefD := ⟨("Builder", some "zero"), "zero", "Builder.zero", defArgs st_Builder_zero, defBody st_Builder_zero, sc_Builder_zero, [], []⟩
abbrev st_Builder_opposite : Stmt := inClass (top 27) 4
abbrev sc_Builder_opposite : Scope := defScope st_Builder_opposite
abbrev N_Builder_opposite : List Str := ["self", "i"]
abbrev d_Builder_opposite : He.DefD := ⟨("Builder", some "opposite"), "opposite", "Builder.opposite", defArgs st_Builder_opposite, defBody st_Builder_opposite, sc_Builder_opposite, [], []⟩
abbrev st_Builder_both_of : Stmt := inClass (top 27) 5
abbrev sc_Builder_both_of : Scope := defScope st_Builder_both_of
abbrev N_Builder_both_of : List Str := ["self", "i", "j"]
abbrev d_Builder_both_of : He.DefD := ⟨("Builder", some "both_of"), "both_of", "Builder.both_of", defArgs st_Builder_both_of, defBody st_Builder_both_of, sc_Builder_both_of, [], []⟩
abbrev st_Builder_either_of : Stmt := inClass (top 27) 6
abbrev sc_Builder_either_of : Scope := defScope st_Builder_either_of
abbrev N_Builder_either_of : List Str := ["self", "i", "j"]
abbrev d_Builder_either_of : He.DefD := ⟨("Builder", some "either_of"), "either_of", "Builder.either_of", defArgs st_Builder_either_of, defBody st_Builder_either_of, sc_Builder_either_of, [], []⟩
abbrev st_Builder_all_of : Stmt := inClass (top 27) 14
abbrev sc_Builder_all_of : Scope := defScope st_Builder_all_of
abbrev N_Builder_all_of : List Str := ["self", "values", "made", "value"]
abbrev d_Builder_all_of : He.DefD := ⟨("Builder", some "all_of"), "all_of", "Builder.all_of", defArgs st_Builder_all_of, defBody st_Builder_all_of, sc_Builder_all_of, [], []⟩
abbrev st_Builder_letter_word : Stmt := inClass (top 27) 15
abbrev sc_Builder_letter_word : Scope := defScope st_Builder_letter_word
abbrev N_Builder_letter_word : List Str := ["self", "x", "i"]
abbrev d_Builder_letter_word : He.DefD := ⟨("Builder", some "letter_word"), "letter_word", "Builder.letter_word", defArgs st_Builder_letter_word, defBody st_Builder_letter_word, sc_Builder_letter_word, [], []⟩
abbrev st_written_word : Stmt := top 41
abbrev sc_written_word : Scope := defScope st_written_word
abbrev N_written_word : List Str := ["builder", "least", "words", "made", "state", "word", "letter", "bit"]
abbrev d_written_word : He.DefD := ⟨("written_word", none), "written_word", "written_word", defArgs st_written_word, defBody st_written_word, sc_written_word, [], []⟩
abbrev st_logic_row : Stmt := top 42
abbrev sc_logic_row : Scope := defScope st_logic_row
abbrev N_logic_row : List Str := ["machine", "least", "builder"]
abbrev d_logic_row : He.DefD := ⟨("logic_row", none), "logic_row", "logic_row", defArgs st_logic_row, defBody st_logic_row, sc_logic_row, [], []⟩
abbrev st__law_asked : Stmt := top 52
abbrev sc__law_asked : Scope := defScope st__law_asked
abbrev N__law_asked : List Str := ["script", "draw", "inputs", "nexts", "outs", "machine", "found", "more", "bits", "again"]
abbrev d__law_asked : He.DefD := ⟨("_law_asked", none), "_law_asked", "_law_asked", defArgs st__law_asked, defBody st__law_asked, sc__law_asked, [], []⟩
abbrev st_law : Stmt := top 53
abbrev sc_law : Scope := defScope st_law
abbrev N_law : List Str := ["script"]
abbrev d_law : He.DefD := ⟨("law", none), "law", "law", defArgs st_law, defBody st_law, sc_law, [], []⟩
abbrev st_InvalidMachine_init : Stmt := inClass (top 14) 0
abbrev sc_InvalidMachine_init : Scope := defScope st_InvalidMachine_init
abbrev N_InvalidMachine_init : List Str := ["self", "part", "place", "__class__"]
abbrev d_InvalidMachine_init : He.DefD := ⟨("InvalidMachine", some "__init__"), "__init__", "InvalidMachine.__init__", defArgs st_InvalidMachine_init, defBody st_InvalidMachine_init, sc_InvalidMachine_init, [], []⟩
abbrev st_InvalidRow_init : Stmt := inClass (top 15) 0
abbrev sc_InvalidRow_init : Scope := defScope st_InvalidRow_init
abbrev N_InvalidRow_init : List Str := ["self", "part", "place", "__class__"]
abbrev d_InvalidRow_init : He.DefD := ⟨("InvalidRow", some "__init__"), "__init__", "InvalidRow.__init__", defArgs st_InvalidRow_init, defBody st_InvalidRow_init, sc_InvalidRow_init, [], []⟩
abbrev FILE : Str := "/claim/cut.py"
abbrev xfs : List He.DefD := [d_InvalidMachine_init, d_InvalidRow_init]
abbrev fa : List He.Fa := [.free "list", .free "tuple", .free "len", .free "isinstance", .free "int", .free "bool", .free "enumerate", .free "all", .free "min", .free "range", .glo "Row", .free "str", .glo "SIZES", .free "max", .glo "is_integer", .glo "is_inputs", .glo "as_tuple", .glo "is_below", .glo "is_line", .glo "right_nexts", .glo "right_outs", .glo "Machine", .mkr "Machine", .glo "_law_take", .glo "_law_machine", .glo "_law_bit", .glo "_law_integer", .glo "_law_numbers", .glo "_law_good_row", .glo "_law_one_state", .glo "_law_right", .glo "Builder", .mkr "Builder", .cls "Builder", .meth "Builder" "put", .meth "Builder" "ones", .glo "are_values", .glo "is_count_deed", .glo "is_deed", .mkr "Row", .glo "values_within", .glo "with_values", .meth "Builder" "row", .glo "numbered", .glo "state_classes", .glo "least_machine", .meth "Builder" "zero", .meth "Builder" "opposite", .meth "Builder" "both_of", .meth "Builder" "either_of", .meth "Builder" "all_of", .meth "Builder" "letter_word", .glo "written_word", .glo "logic_row", .glo "_law_asked", .glo "law", .glo "InvalidMachine", .free "super", .glo "InvalidRow"]
abbrev fns : List He.DefD := [d_is_integer, d_is_inputs, d_as_tuple, d_is_below, d_is_line, d_right_nexts, d_right_outs, d_Machine_init, d__law_take, d__law_machine, d__law_bit, d__law_integer, d__law_numbers, d__law_good_row, d__law_one_state, d__law_right, d_Builder_init, d_Builder_put, d_Builder_ones, d_are_values, d_is_count_deed, d_is_deed, d_Row_init, d_values_within, d_with_values, d_Builder_row, d_numbered, d_state_classes, d_least_machine, d_Builder_zero, d_Builder_opposite, d_Builder_both_of, d_Builder_either_of, d_Builder_all_of, d_Builder_letter_word, d_written_word, d_logic_row, d__law_asked, d_law]
abbrev tbs : List He.Tab := [tabT "SIZES" tab_SIZES]
abbrev mss : List (Frag → Bool) := [attB ["Row"] "deeds", attB ["Row"] "out", attB ["Machine"] "inputs", attB ["Machine"] "nexts", attB ["Machine"] "outs", kitC CS, attB ["Row", "Machine"] "inputs", attB ["Builder"] "inputs", attB ["Builder"] "deeds", attB ["Builder"] "numbers", attB ["Row"] "inputs", tabB "SIZES" tab_SIZES, errB FILE "InvalidMachine" "InvalidMachine.__init__" ["part", "place"], errB FILE "InvalidRow" "InvalidRow.__init__" ["part", "place"]]
abbrev lo0 : List Str := ["_wall", "is_integer", "is_number", "is_inputs", "as_tuple", "is_below", "is_word", "are_words", "CarryError", "InvalidNumber", "InvalidWords", "InvalidReading", "InvalidMachine", "InvalidRow", "SIZES", "are_values", "is_count_deed", "is_deed", "values_within", "with_values", "counted_word", "deed_word", "Row", "Builder", "is_reading", "letters_of", "is_line", "right_nexts", "right_outs", "Machine"]
abbrev lo1 : List Str := ["numbered", "state_classes", "least_machine", "written_word", "logic_row", "_law_integer", "_law_take", "_law_machine", "_law_one_state", "_law_numbers", "_law_good_row", "_law_bit", "_law_right", "_law_asked"]
abbrev lo : List Str := lo0 ++ lo1
abbrev R : PySem.W.OpenRow := PySem.W.OpenLaw.row PySem.Challenge.rw_onlycarries_k36_logic_rows
abbrev hkY : PySem.W.Hook := hookY 5 (fun K => noL K && mss.all fun m => m K) fa fns xfs tbs
def ob (s : PySem.W.SharedT) : AlY := obsYG 5 (fun K => noL K && mss.all fun m => m K) fa fns xfs tbs (HandSHeadRun.getT s)
end Py
namespace Py
open PySem PySem.Spec PyProof.Rows L2
theorem run0 (w : World) : HandSHeadRun.RunEq R (PySem.W.view R.prog [53]) hkY ob 8000 lo (w.withFollow "special-get-raises" false) := by
  intro os
  kernel_rfl
theorem run1 (w : World) : HandSHeadRun.RunEq R (PySem.W.view R.prog [53]) hkY ob 8000 lo (w.withFollow "special-get-raises" true) := by
  intro os
  kernel_rfl
theorem run (w : World) : HandSHeadRun.RunEq R (PySem.W.view R.prog [53]) hkY ob 8000 lo w := PySem.W.byRow2 "special-get-raises" run0 run1 w
end Py
/-! More of what is computed. -/
/-! Draws: a pool that a def changes, what is drawn of it. -/
namespace Py
open PySem L2
/-- a value given back, and what the first name's own list holds then -/
def retB (m : EM) : SM := fun e => m e >>= fun d => var 0 e >>= fun l => .ok (.ret (.tup [d, l]))
def oidxC (x y : D) : Res D := match x with | .drw (.inr q) => oidx (.lst (q.2.map .int)) y | _ => .stuck
def blenC (x : D) : Res D := match x with | .drw (.inr q) => blen (.lst (q.2.map .int)) | _ => .stuck
/-- what a pool holds -/
def DV (k : Bool) (a0 : Nat) (xs : List Int) : List D → Prop := fun ds => match k with
  | false => ∃ p c m : Int, ds = [.drw (.inr (a0, xs)), .int p, .int c, .int m] ∧ 0 ≤ p ∧ 0 ≤ m ∧ m < 2147483647
  | true => ∃ p c j m : Int, ds = [.drw (.inr (a0, xs)), .int p, .int c, .int j, .int m] ∧ 0 ≤ p ∧ 0 ≤ m ∧ m < 2147483647
/-- some number below n -/
def pickF (k : Bool) : List D → Res D
  | [.drw (.inl q), .int n] => if q = k ∧ 0 < n ∧ n < 1073741824 then .pick (n - 1).toNat fun i => .ok (.int i) else .stuck
  | _ => .stuck
/-- the body of a def that draws -/
def Draws (k : Bool) (n : Nat) (b : SM) : Prop := ∀ (a0 : Nat) (xs : List Int) (ds : List D) (many : Int), DV k a0 xs ds → 0 < many → many < 1073741824 →
  ∃ r ds', b ([some (.lst ds), some (.int many)] ++ List.replicate (n - 2) none) = .ok (.ret (.tup [.int r, .lst ds'])) ∧ 0 ≤ r ∧ r < many ∧ DV k a0 xs ds'
def allI : List D → Option (List Int)
  | [] => some []
  | .int i :: r => (allI r).map (i :: ·)
  | _ => none
/-- a new pool -/
def mkpF : D → Res D
  | .lst [.lst xs, .int p, .int _, .int u] => if (allI xs).isSome ∧ 0 ≤ p ∧ 0 ≤ u ∧ u < 2147483647 then .ok (.drw (.inl false)) else .stuck
  | .lst [.lst xs, .int p, .int _, .int _, .int u] => if (allI xs).isSome ∧ 0 ≤ p ∧ 0 ≤ u ∧ u < 2147483647 then .ok (.drw (.inl true)) else .stuck
  | _ => .stuck
def mkp (m : EM) : EM := fun e => m e >>= mkpF
theorem mkpF_inv (d : D) : mkpF d = .stuck ∨ (∃ xs p c u, d = .lst [.lst xs, .int p, .int c, .int u] ∧ ((allI xs).isSome ∧ 0 ≤ p ∧ 0 ≤ u ∧ u < 2147483647) ∧ mkpF d = .ok (.drw (.inl false))) ∨
    ∃ xs p c j u, d = .lst [.lst xs, .int p, .int c, .int j, .int u] ∧ ((allI xs).isSome ∧ 0 ≤ p ∧ 0 ≤ u ∧ u < 2147483647) ∧ mkpF d = .ok (.drw (.inl true)) := by
  unfold mkpF
  split
  · rename_i xs p c u
    by_cases h : (allI xs).isSome ∧ 0 ≤ p ∧ 0 ≤ u ∧ u < 2147483647
    · exact .inr (.inl ⟨xs, p, c, u, rfl, h, if_pos h⟩)
    · exact .inl (if_neg h)
  · rename_i xs p c j u
    by_cases h : (allI xs).isSome ∧ 0 ≤ p ∧ 0 ≤ u ∧ u < 2147483647
    · exact .inr (.inr ⟨xs, p, c, j, u, rfl, h, if_pos h⟩)
    · exact .inl (if_neg h)
  · exact .inl rfl
/-- whatever is drawn: it comes to an end, and P holds of it -/
def Always {α : Type} (P : α → Prop) : Res α → Prop
  | .ok a => P a
  | .pick n k => ∀ i, i ≤ n → Always P (k i)
  | .exc _ _ => False
  | .stuck => False
end Py
/-! How the mirrors are computed: equations, loops, comprehensions. -/
namespace Py
open PySem
/-! ### equations -/
theorem var_eq {i : Nat} {e : Env} {d : D} (h : e[i]? = some (some d)) : var i e = .ok d := by
  unfold var
  rw [h]
@[simp] theorem cst_eq (d : D) (e : Env) : cst d e = .ok d := rfl
@[simp] theorem un_eq (f : D → Res D) (a : EM) (e : Env) : un f a e = (a e >>= f) := rfl
@[simp] theorem bin_eq (f : D → D → Res D) (a b : EM) (e : Env) : bin f a b e = (a e >>= fun x => b e >>= fun y => f x y) := rfl
@[simp] theorem argN_eq (e : Env) : argN e = .ok [] := rfl
@[simp] theorem argC_eq (a : EM) (r : AM) (e : Env) : argC a r e = (a e >>= fun x => r e >>= fun xs => .ok (x :: xs)) := rfl
@[simp] theorem call_eq (f : List D → Res D) (a : AM) (e : Env) : call f a e = (a e >>= f) := rfl
@[simp] theorem tst_eq (a : EM) (e : Env) : tst a e = (a e >>= truthy) := rfl
@[simp] theorem andT_eq (a b : TM) (e : Env) : andT a b e = (a e >>= fun x => if x then b e else .ok false) := rfl
@[simp] theorem orT_eq (a b : TM) (e : Env) : orT a b e = (a e >>= fun x => if x then .ok true else b e) := rfl
@[simp] theorem notT_eq (a : TM) (e : Env) : notT a e = (a e >>= fun x => .ok (!x)) := rfl
@[simp] theorem ifE_eq (t : TM) (a b : EM) (e : Env) : ifE t a b e = (t e >>= fun x => if x then a e else b e) := rfl
@[simp] theorem ite_eq (t : TM) (a b : SM) (e : Env) : ite t a b e = (t e >>= fun x => if x then a e else b e) := rfl
@[simp] theorem skip_eq (e : Env) : skip e = .ok (.next e) := rfl
@[simp] theorem ret_eq (m : EM) (e : Env) : ret m e = (m e >>= fun d => .ok (.ret d)) := rfl
@[simp] theorem asg_eq (g : GM) (m : EM) (e : Env) : asg g m e = (m e >>= fun d => lift (g d e) >>= fun e' => .ok (.next e')) := rfl
@[simp] theorem gnm_eq (i : Nat) (d : D) (e : Env) : gnm i d e = some (e.set i (some d)) := rfl
@[simp] theorem seq_eq (a b : SM) (e : Env) : seq a b e = (a e >>= fun f => match f with | .next e' => b e' | r => .ok r) := rfl
@[simp] theorem forB_eq (g : GM) (b : SM) (x : D) (e : Env) : forB g b x e = (lift (g x e) >>= b) := rfl
@[simp] theorem drop_eq (m : EM) (e : Env) : Py.drop m e = (m e >>= fun _ => .ok (.next e)) := rfl
@[simp] theorem tupE_eq (a : AM) (e : Env) : tupE a e = (a e >>= fun xs => chk xs.length (.tup xs)) := rfl
@[simp] theorem lstE_eq (a : AM) (e : Env) : lstE a e = (a e >>= fun xs => chk xs.length (.lst xs)) := rfl
@[simp] theorem andE_eq (a b : EM) (e : Env) : andE a b e = (a e >>= fun x => match x with | .bl true => b e | .bl false => .ok (.bl false) | _ => .stuck) := rfl
@[simp] theorem orE_eq (a b : EM) (e : Env) : orE a b e = (a e >>= fun x => match x with | .bl false => b e | .bl true => .ok (.bl true) | _ => .stuck) := rfl
@[simp] theorem chain_eq (f g : D → D → Res D) (a b c : EM) (e : Env) : chain f g a b c e = (a e >>= fun x => b e >>= fun y => f x y >>= fun z => match z with
  | .bl true => c e >>= fun u => g y u
  | .bl false => .ok (.bl false)
  | _ => .stuck) := rfl
@[simp] theorem iseq_eq (a : EM) (e : Env) : iseq a e = (a e >>= fun x => match x with | .lst xs => .ok xs | .tup xs => .ok xs | _ => .stuck) := rfl
@[simp] theorem for_eq (it : IM) (g : GM) (b : SM) (e : Env) : for_ it g b e = (it e >>= fun xs => forL (forB g b) xs e) := rfl
@[simp] theorem app_eq (i : Nat) (m : EM) (e : Env) : app i m e = (var i e >>= fun l => match l with
  | .lst xs => m e >>= fun d => if xs.length < SZ then .ok (.next (e.set i (some (.lst (xs ++ [d]))))) else .stuck
  | _ => .stuck) := rfl
@[simp] theorem aug_eq (i : Nat) (f : D → D → Res D) (m : EM) (e : Env) : aug i f m e = (var i e >>= fun x => m e >>= fun y => f x y >>= fun z => .ok (.next (e.set i (some z)))) := rfl
@[simp] theorem done_next (e : Env) : done (.ok (.next e)) = .ok .non := rfl
@[simp] theorem done_ret (d : D) : done (.ok (.ret d)) = .ok d := rfl
@[simp] theorem thru_eq (m : SM) (e : Env) : thru m e = noexc (m e) := rfl
@[simp] theorem brk_eq (e : Env) : brk e = .ok (.brk e) := rfl
@[simp] theorem cnt_eq (e : Env) : cnt e = .ok (.cnt e) := rfl
@[simp] theorem retN_eq (e : Env) : retN e = .ok (.ret .non) := rfl
@[simp] theorem chk_0 {d : D} : chk 0 d = .ok d := chk_ok (by decide)
@[simp] theorem chk_1 {d : D} : chk 1 d = .ok d := chk_ok (by decide)
@[simp] theorem chk_2 {d : D} : chk 2 d = .ok d := chk_ok (by decide)
@[simp] theorem chk_3 {d : D} : chk 3 d = .ok d := chk_ok (by decide)
@[simp] theorem chk_4 {d : D} : chk 4 d = .ok d := chk_ok (by decide)
@[simp] theorem chk_5 {d : D} : chk 5 d = .ok d := chk_ok (by decide)
@[simp] theorem chk_6 {d : D} : chk 6 d = .ok d := chk_ok (by decide)
@[simp] theorem chk_7 {d : D} : chk 7 d = .ok d := chk_ok (by decide)
@[simp] theorem chk_8 {d : D} : chk 8 d = .ok d := chk_ok (by decide)
@[simp] theorem chk_9 {d : D} : chk 9 d = .ok d := chk_ok (by decide)
@[simp] theorem chk_10 {d : D} : chk 10 d = .ok d := chk_ok (by decide)
@[simp] theorem chk_11 {d : D} : chk 11 d = .ok d := chk_ok (by decide)
@[simp] theorem chk_12 {d : D} : chk 12 d = .ok d := chk_ok (by decide)
@[simp] theorem chk_13 {d : D} : chk 13 d = .ok d := chk_ok (by decide)
@[simp] theorem chk_14 {d : D} : chk 14 d = .ok d := chk_ok (by decide)
@[simp] theorem chk_15 {d : D} : chk 15 d = .ok d := chk_ok (by decide)
@[simp] theorem chk_16 {d : D} : chk 16 d = .ok d := chk_ok (by decide)
@[simp] theorem chk_17 {d : D} : chk 17 d = .ok d := chk_ok (by decide)
@[simp] theorem chk_18 {d : D} : chk 18 d = .ok d := chk_ok (by decide)
@[simp] theorem chk_19 {d : D} : chk 19 d = .ok d := chk_ok (by decide)
@[simp] theorem chk_20 {d : D} : chk 20 d = .ok d := chk_ok (by decide)
@[simp] theorem chk_21 {d : D} : chk 21 d = .ok d := chk_ok (by decide)
@[simp] theorem chk_22 {d : D} : chk 22 d = .ok d := chk_ok (by decide)
@[simp] theorem chk_23 {d : D} : chk 23 d = .ok d := chk_ok (by decide)
/-! ### calls of defs -/
theorem fn1 {n : Nat} {b : SM} {x : D} : fn 1 n b [x] = done (b (some x :: List.replicate (n - 1) none)) := if_pos rfl
theorem fn2 {n : Nat} {b : SM} {x y : D} : fn 2 n b [x, y] = done (b (some x :: some y :: List.replicate (n - 2) none)) := if_pos rfl
theorem fn3 {n : Nat} {b : SM} {x y z : D} : fn 3 n b [x, y, z] = done (b (some x :: some y :: some z :: List.replicate (n - 3) none)) := if_pos rfl
/-! ### operators on numbers -/
@[simp] theorem oadd_ii (i j : Int) : oadd (.int i) (.int j) = .ok (.int (i + j)) := rfl
@[simp] theorem osub_ii (i j : Int) : osub (.int i) (.int j) = .ok (.int (i - j)) := rfl
theorem omul_ii {i j : Int} (h : i.natAbs < B64 ∨ j.natAbs < B64) : omul (.int i) (.int j) = .ok (.int (i * j)) := if_pos h
theorem omul_l {i j : Int} (h : -18446744073709551616 < i) (h' : i < 18446744073709551616) : omul (.int i) (.int j) = .ok (.int (i * j)) := omul_ii (.inl (by unfold B64; omega))
theorem omul_r {i j : Int} (h : -18446744073709551616 < j) (h' : j < 18446744073709551616) : omul (.int i) (.int j) = .ok (.int (i * j)) := omul_ii (.inr (by unfold B64; omega))
theorem opow18 : opow (.int 10) (.int 18) = .ok (.int 1000000000000000000) := rfl
theorem omod_ii {i j : Int} (h : 0 < j) : omod (.int i) (.int j) = .ok (.int (i % j)) := if_pos h
theorem ofdiv_ii {i j : Int} (h : 0 < j ∧ j < 1073741824) : ofdiv (.int i) (.int j) = .ok (.int (i / j)) := if_pos h
theorem oshl_ii {i j : Int} (h : 0 ≤ j ∧ (Builtin.Int.intBits i : Int) + j ≤ 134217728) : oshl (.int i) (.int j) = .ok (.int (i * 2 ^ j.toNat)) := if_pos h
theorem oshr_ii {i j : Int} (h : 0 ≤ j) : oshr (.int i) (.int j) = .ok (.int (i / 2 ^ j.toNat)) := if_pos h
@[simp] theorem oand_ii (i j : Int) : oand (.int i) (.int j) = .ok (.int (Builtin.bitAnd i j)) := rfl
@[simp] theorem olt_ii (i j : Int) : olt (.int i) (.int j) = .ok (.bl (decide (i < j))) := rfl
@[simp] theorem ole_ii (i j : Int) : ole (.int i) (.int j) = .ok (.bl (decide (i ≤ j))) := rfl
@[simp] theorem ogt_ii (i j : Int) : ogt (.int i) (.int j) = .ok (.bl (decide (j < i))) := rfl
@[simp] theorem oge_ii (i j : Int) : oge (.int i) (.int j) = .ok (.bl (decide (j ≤ i))) := rfl
@[simp] theorem oneg_i (i : Int) : oneg (.int i) = .ok (.int (-i)) := rfl
@[simp] theorem oeq_ii (i j : Int) : oeq (.int i) (.int j) = .ok (.bl (i == j)) := rfl
@[simp] theorem one_ii (i j : Int) : Py.one (.int i) (.int j) = .ok (.bl (!(i == j))) := rfl
@[simp] theorem bint_i (i : Int) : bint (.int i) = .ok (.int i) := rfl
@[simp] theorem bint_b (b : Bool) : bint (.bl b) = .ok (.int (b2i b)) := rfl
@[simp] theorem truthy_b (b : Bool) : truthy (.bl b) = .ok b := rfl
@[simp] theorem truthy_i (i : Int) : truthy (.int i) = .ok (i != 0) := rfl
@[simp] theorem blen_l (xs : List D) : blen (.lst xs) = .ok (.int xs.length) := rfl
@[simp] theorem blen_t (xs : List D) : blen (.tup xs) = .ok (.int xs.length) := rfl
@[simp] theorem btuple_l (xs : List D) : btuple (.lst xs) = .ok (.tup xs) := rfl
@[simp] theorem btuple_t (xs : List D) : btuple (.tup xs) = .ok (.tup xs) := rfl
@[simp] theorem blist_l (xs : List D) : blist (.lst xs) = .ok (.lst xs) := rfl
@[simp] theorem blist_t (xs : List D) : blist (.tup xs) = .ok (.lst xs) := rfl
@[simp] theorem onb_b (b : Bool) : onb (.bl b) = .ok (.bl (!b)) := rfl
/-! ### subscripts -/
theorem ixN_nat {n k : Nat} (h : k < n) : L2.ixN n (k : Int) = some k := by
  unfold L2.ixN
  simp [h]
theorem atI_nat {α : Type} {xs : List α} {k : Nat} (h : k < xs.length) : L2.atI xs (k : Int) = some xs[k] := by
  unfold L2.atI
  rw [ixN_nat h]
  simp [h]
theorem oidx_l {xs : List D} {k : Nat} {d : D} (h : xs[k]? = some d) : oidx (.lst xs) (.int (k : Int)) = .ok d := by
  have hk : k < xs.length := by
    rcases Nat.lt_or_ge k xs.length with h1 | h1
    · exact h1
    · rw [List.getElem?_eq_none h1] at h
      cases h
  unfold oidx
  simp only [atI_nat hk, opt]
  rw [List.getElem?_eq_getElem hk] at h
  rw [Option.some.inj h]
theorem oidx_t {xs : List D} {k : Nat} {d : D} (h : xs[k]? = some d) : oidx (.tup xs) (.int (k : Int)) = .ok d := by
  have q : oidx (.tup xs) (.int (k : Int)) = oidx (.lst xs) (.int (k : Int)) := rfl
  rw [q]
  exact oidx_l h
/-! ### loops -/
theorem rng_map (n : Nat) : rngL 0 (n : Int) = (List.range n).map fun i => D.int ((i : Nat) : Int) := by
  unfold rngL
  rw [Int.sub_zero, Int.toNat_natCast]
  refine List.map_congr_left fun i _ => ?_
  rw [Int.zero_add]
theorem rng_lt {n : Nat} (h : n ≤ 1000) : n < B62 := Nat.lt_of_le_of_lt h (by decide)
theorem irng1_int {a : EM} {e : Env} {i : Int} (h : a e = .ok (.int i)) : irng1 a e = if i.natAbs < B62 then .ok (rngL 0 i) else .stuck := by
  unfold irng1
  simp only [h, bind_ok]
theorem irng1_nat {a : EM} {e : Env} {n : Nat} (h : a e = .ok (.int (n : Int))) (hn : n < B62) : irng1 a e = .ok ((List.range n).map fun i => .int ((i : Nat) : Int)) := by
  rw [← rng_map, irng1_int h]
  exact if_pos hn
theorem forL_inv {b : D → Env → Res Fl} (I : Nat → Env → Prop) : ∀ {xs : List D} {e : Env} (k : Nat), I k e → (∀ i e, (h : i < xs.length) → I (k + i) e → ∃ e', b xs[i] e = .ok (.next e') ∧ I (k + i + 1) e') → ∃ e', forL b xs e = .ok (.next e') ∧ I (k + xs.length) e'
  | [], e, k, h, _ => ⟨e, rfl, h⟩
  | x :: xs, e, k, h, hb => by
    obtain ⟨e1, h1, i1⟩ := hb 0 e (by simp) h
    have h1' : b x e = .ok (.next e1) := h1
    obtain ⟨e2, h2, i2⟩ := forL_inv (xs := xs) I (k + 1) i1 fun i e' hi hI => by
      have hI' : I (k + (i + 1)) e' := by
        rw [show k + (i + 1) = k + 1 + i by omega]
        exact hI
      obtain ⟨e3, h3, i3⟩ := hb (i + 1) e' (by simpa using hi) hI'
      refine ⟨e3, by simpa using h3, ?_⟩
      rw [show k + 1 + i + 1 = k + (i + 1) + 1 by omega]
      exact i3
    refine ⟨e2, ?_, ?_⟩
    · unfold forL
      rw [h1']
      exact h2
    · rw [show k + (x :: xs).length = k + 1 + xs.length by simp; omega]
      exact i2
/-- for each of range(n) -/
theorem forR_inv {b : D → Env → Res Fl} (I : Nat → Env → Prop) {n : Nat} {e : Env} (h0 : I 0 e) (hb : ∀ i e, i < n → I i e → ∃ e', b (.int ((i : Nat) : Int)) e = .ok (.next e') ∧ I (i + 1) e') :
    ∃ e', forL b ((List.range n).map fun i => .int ((i : Nat) : Int)) e = .ok (.next e') ∧ I n e' := by
  have q := forL_inv (b := b) (xs := (List.range n).map fun i => .int ((i : Nat) : Int)) I 0 h0 fun i e' hi hI => by
    have hi' : i < n := by simpa using hi
    have := hb i e' hi' (by simpa using hI)
    simpa using this
  simpa using q
/-! ### comprehensions -/
/-! ### sums, all -/
theorem intsOf_map : ∀ is : List Int, intsOf (is.map .int) = some is
  | [] => rfl
  | i :: is => by
    simp only [List.map_cons, intsOf, intsOf_map is]
    rfl
theorem boolsOf_map : ∀ is : List Bool, boolsOf (is.map .bl) = some is
  | [] => rfl
  | i :: is => by
    simp only [List.map_cons, boolsOf, boolsOf_map is]
    rfl
theorem ball_bools (bs : List Bool) : ball (.lst (bs.map .bl)) = .ok (.bl (bs.all id)) := by
  unfold ball
  simp only [boolsOf_map]
/-! ### bits -/
theorem oand1 (i : Int) : oand (.int i) (.int 1) = .ok (.int (i % 2)) := by rw [oand_ii, PyProof.Rows.bitAnd_m1]
theorem oshr_nat (c : Int) (p : Nat) : oshr (.int c) (.int (p : Int)) = .ok (.int (c / 2 ^ p)) := by
  rw [oshr_ii (Int.natCast_nonneg p), Int.toNat_natCast]
theorem intBits_1 : (Builtin.Int.intBits 1 : Int) = 1 := by decide
theorem oshl1 (p : Nat) (h : p ≤ 1000) : oshl (.int 1) (.int (p : Int)) = .ok (.int (2 ^ p)) := by
  rw [oshl_ii ⟨Int.natCast_nonneg p, by rw [intBits_1]; omega⟩, Int.toNat_natCast, Int.one_mul]
end Py
/-! The two defs that draw. -/
namespace Py
open PySem
def takeB : SM :=
  (seq (setL 0 (cst (.int 3)) (bin oadd (bin oidx (var 0) (cst (.int 3))) (cst (.int 1))))
  (seq (ite (andT (tst (bin oeq (bin oidx (var 0) (cst (.int 2))) (cst (.int 0)))) (tst (bin olt (bin oidx (var 0) (cst (.int 1))) (un blenC (bin oidx (var 0) (cst (.int 0))))))) (seq (asg (gnm 2) (bin oidxC (bin oidx (var 0) (cst (.int 0))) (bin oidx (var 0) (cst (.int 1)))))
  (seq (setL 0 (cst (.int 1)) (bin oadd (bin oidx (var 0) (cst (.int 1))) (cst (.int 1))))
  (seq (ite (tst (bin oge (var 2) (bin opow (cst (.int 10)) (cst (.int 18))))) (setL 0 (cst (.int 2)) (var 2)) skip)
  (setL 0 (cst (.int 4)) (bin omod (un bint (bin oadd (bin omul (bin oidx (var 0) (cst (.int 4))) (cst (.int 48271))) (var 2))) (cst (.int 2147483647))))))) skip)
  (seq (ite (tst (bin ogt (bin oidx (var 0) (cst (.int 2))) (cst (.int 0)))) (seq (asg (gnm 3) (bin omod (un bint (bin oidx (var 0) (cst (.int 2)))) (var 1)))
  (seq (setL 0 (cst (.int 2)) (bin ofdiv (bin oidx (var 0) (cst (.int 2))) (var 1)))
  (retB (var 3)))) skip)
  (seq (setL 0 (cst (.int 4)) (bin omod (un bint (bin oadd (bin oadd (bin omul (bin oidx (var 0) (cst (.int 4))) (cst (.int 40692))) (bin omul (bin oidx (var 0) (cst (.int 3))) (cst (.int 69621)))) (cst (.int 7)))) (cst (.int 2147483399))))
  (seq (asg (gnm 4) (bin omod (un bint (bin omul (bin oidx (var 0) (cst (.int 4))) (bin oidx (var 0) (cst (.int 4))))) (cst (.int 1999999973))))
  (retB (bin omod (un bint (bin ofdiv (var 4) (cst (.int 64)))) (var 1))))))))
def takeT : SM :=
  (seq (ite (tst (bin ogt (bin oidx (var 0) (cst (.int 2))) (cst (.int 0)))) (seq (asg (gnm 3) (bin omod (un bint (bin oidx (var 0) (cst (.int 2)))) (var 1)))
  (seq (setL 0 (cst (.int 2)) (bin ofdiv (bin oidx (var 0) (cst (.int 2))) (var 1)))
  (retB (var 3)))) skip)
  (seq (setL 0 (cst (.int 4)) (bin omod (un bint (bin oadd (bin oadd (bin omul (bin oidx (var 0) (cst (.int 4))) (cst (.int 40692))) (bin omul (bin oidx (var 0) (cst (.int 3))) (cst (.int 69621)))) (cst (.int 7)))) (cst (.int 2147483399))))
  (seq (asg (gnm 4) (bin omod (un bint (bin omul (bin oidx (var 0) (cst (.int 4))) (bin oidx (var 0) (cst (.int 4))))) (cst (.int 1999999973))))
  (retB (bin omod (un bint (bin ofdiv (var 4) (cst (.int 64)))) (var 1))))))
theorem draws_take : Draws true 5 takeB := by
  rintro a0 xs _ n ⟨p, c, j, m, rfl, hp, hm0, hm1⟩ hn0 hn1
  have i0 : ∀ {a b c d e : D}, oidx (.lst [a, b, c, d, e]) (.int 0) = .ok a := rfl
  have i1 : ∀ {a b c d e : D}, oidx (.lst [a, b, c, d, e]) (.int 1) = .ok b := rfl
  have i2 : ∀ {a b c d e : D}, oidx (.lst [a, b, c, d, e]) (.int 2) = .ok c := rfl
  have i3 : ∀ {a b c d e : D}, oidx (.lst [a, b, c, d, e]) (.int 3) = .ok d := rfl
  have i4 : ∀ {a b c d e : D}, oidx (.lst [a, b, c, d, e]) (.int 4) = .ok e := rfl
  have x1 : L2.ixN 5 1 = some 1 := rfl
  have x2 : L2.ixN 5 2 = some 2 := rfl
  have x3 : L2.ixN 5 3 = some 3 := rfl
  have x4 : L2.ixN 5 4 = some 4 := rfl
  have hmod : ∀ z : Int, 0 ≤ z % n ∧ z % n < n := fun z => ⟨Int.emod_nonneg _ (by omega), Int.emod_lt_of_pos _ hn0⟩
  have mods : ∀ z : Int, omod (.int z) (.int n) = .ok (.int (z % n)) := fun z => omod_ii hn0
  have divs : ∀ z : Int, ofdiv (.int z) (.int n) = .ok (.int (z / n)) := fun z => ofdiv_ii ⟨hn0, hn1⟩
  have bl : blenC (.drw (.inr (a0, xs))) = .ok (.int (xs.length : Int)) := by simp [blenC]
  have md1 : ∀ z : Int, omod (.int z) (.int 2147483647) = .ok (.int (z % 2147483647)) := fun z => omod_ii (by decide)
  have md2 : ∀ z : Int, omod (.int z) (.int 2147483399) = .ok (.int (z % 2147483399)) := fun z => omod_ii (by decide)
  have md3 : ∀ z : Int, omod (.int z) (.int 1999999973) = .ok (.int (z % 1999999973)) := fun z => omod_ii (by decide)
  have dv : ∀ z : Int, ofdiv (.int z) (.int 64) = .ok (.int (z / 64)) := fun z => ofdiv_ii (by decide)
  have ml1 : ∀ z : Int, omul (.int z) (.int 48271) = .ok (.int (z * 48271)) := fun z => omul_r (by decide) (by decide)
  have ml2 : ∀ z : Int, omul (.int z) (.int 69621) = .ok (.int (z * 69621)) := fun z => omul_r (by decide) (by decide)
  have ml3 : ∀ z : Int, omul (.int z) (.int 40692) = .ok (.int (z * 40692)) := fun z => omul_r (by decide) (by decide)
  have tail : ∀ (p' c' m' : Int) (o : Option D), 0 ≤ p' → 0 ≤ m' → m' < 2147483647 → ∃ r ds', (takeT : SM) [some (.lst [.drw (.inr (a0, xs)), .int p', .int c', .int (j + 1), .int m']), some (.int n), o, none, none] = .ok (.ret (.tup [.int r, .lst ds'])) ∧ 0 ≤ r ∧ r < n ∧ DV true a0 xs ds' := by
    intro p' c' m' o hp' h0 h1
    by_cases hz : 0 < c'
    · refine ⟨c' % n, _, ?_, (hmod _).1, (hmod _).2, ⟨p', c' / n, j + 1, m', rfl, hp', h0, h1⟩⟩
      simp [takeT, var, setL, retB, hz, x2, i2, mods, divs]
    · generalize hu : (m' * 40692 + (j + 1) * 69621 + 7) % 2147483399 = u
      have hu1 : 0 ≤ u ∧ u < 2147483399 := by omega
      have ml5 : omul (.int u) (.int u) = .ok (.int (u * u)) := omul_l (by omega) (by omega)
      refine ⟨u * u % 1999999973 / 64 % n, _, ?_, (hmod _).1, (hmod _).2, ⟨p', c', j + 1, u, rfl, hp', hu1.1, by omega⟩⟩
      simp [takeT, var, setL, retB, hz, x4, i2, i3, i4, mods, divs, ml1, ml2, ml3, md2, hu, ml5, md3, dv]
  by_cases hq : c = 0 ∧ p < (xs.length : Int)
  · obtain ⟨rfl, hq⟩ := hq
    obtain ⟨k, rfl⟩ : ∃ k : Nat, p = (k : Int) := ⟨p.toNat, by omega⟩
    have hk : k < xs.length := by omega
    have cell : oidxC (.drw (.inr (a0, xs))) (.int (k : Int)) = .ok (.int xs[k]) := by
      unfold oidxC
      exact oidx_l (by simp [hk])
    have mm : 0 ≤ (m * 48271 + xs[k]) % 2147483647 ∧ (m * 48271 + xs[k]) % 2147483647 < 2147483647 := by omega
    by_cases hb : 1000000000000000000 ≤ xs[k]
    · obtain ⟨r, ds', h1, h2⟩ := tail ((k : Int) + 1) xs[k] ((m * 48271 + xs[k]) % 2147483647) (some (.int xs[k])) (by omega) mm.1 mm.2
      refine ⟨r, ds', ?_, h2⟩
      rw [← h1]
      simp [takeB, takeT, var, setL, i0, i1, i2, i3, i4, hq, hk, x1, x2, x3, x4, bl, cell, opow18, hb, ml1, md1]
    · obtain ⟨r, ds', h1, h2⟩ := tail ((k : Int) + 1) 0 ((m * 48271 + xs[k]) % 2147483647) (some (.int xs[k])) (by omega) mm.1 mm.2
      refine ⟨r, ds', ?_, h2⟩
      rw [← h1]
      simp [takeB, takeT, var, setL, i0, i1, i2, i3, i4, hq, hk, x1, x2, x3, x4, bl, cell, opow18, hb, ml1, md1]
  · obtain ⟨r, ds', h1, h2⟩ := tail p c m none hp hm0 hm1
    refine ⟨r, ds', ?_, h2⟩
    rw [← h1]
    by_cases h0 : c = 0
    · have hq2 : ¬ p < (xs.length : Int) := fun z => hq ⟨h0, z⟩
      subst h0
      simp [takeB, takeT, var, setL, i0, i1, i2, i3, i4, hq2, x3, bl]
    · simp [takeB, takeT, var, setL, i0, i1, i2, i3, i4, h0, x3]
end Py
/-! Dict comprehensions, keys walked, str of a number. -/
namespace Py
open PySem L2
def dcF (vs : List Nat) (g : GM) (t : TM) (ek ev : EM) (e : Env) (x : D) : Res (Option (D × D)) :=
  lift (g x (wipe e vs)) >>= fun e1 => t e1 >>= fun b => if b then ek e1 >>= fun k => ev e1 >>= fun v => .ok (some (k, v)) else .ok none
def dcL (tk : Bool) (f : D → Res (Option (D × D))) : List D → List (D × D) → Res (List (D × D))
  | [], acc => .ok acc
  | x :: xs, acc => f x >>= fun o => match o with
    | some (k, v) => if keyOk tk k then dcL tk f xs (putD k v acc) else .stuck
    | none => dcL tk f xs acc
/-- {k: v for .. in .. if ..} -/
def dcE (tk : Bool) (it : IM) (vs : List Nat) (g : GM) (t : TM) (ek ev : EM) : EM := fun e => it e >>= fun xs => if xs.length ≤ SZ then noexc (dcL tk (dcF vs g t ek ev e) xs []) >>= fun kvs => .ok (.dic tk kvs) else .stuck
theorem putD_len (k v : D) : ∀ kvs : List (D × D), (putD k v kvs).length ≤ kvs.length + 1
  | [] => by simp [putD]
  | (a, x) :: r => by
    unfold putD
    split
    · simp
    · have := putD_len k v r
      simp only [List.length_cons]
      omega
end Py
/-! Texts: joined, split, with numbers put in; texts read as numbers; signs of a text; every other item. -/
/-! One sign not in a text. -/
/-! xs.index(x): the first place of a flat thing in a list. -/
/-! Expressions that change a name's own object: the frame goes through them. -/
namespace Py
open PySem L2
abbrev XM := Env → Res (D × Env)
abbrev XT := Env → Res (Bool × Env)
abbrev XA := Env → Res (List D × Env)
def upX (m : EM) : XM := fun e => m e >>= fun d => .ok (d, e)
def upT (m : TM) : XT := fun e => m e >>= fun b => .ok (b, e)
def xaN : XA := fun e => .ok ([], e)
def xaC (a : XM) (r : XA) : XA := fun e => a e >>= fun p => r p.2 >>= fun q => .ok (p.1 :: q.1, q.2)
def binX (f : D → D → Res D) (a b : XM) : XM := fun e => a e >>= fun p => b p.2 >>= fun q => f p.1 q.1 >>= fun d => .ok (d, q.2)
def lstX (a : XA) : XM := fun e => a e >>= fun p => chk p.1.length (.lst p.1) >>= fun d => .ok (d, p.2)
/-- what a def gives back that was lent slot i's object -/
def backX (i : Nat) (e : Env) : D → Res (D × Env)
  | .tup [d, l] => .ok (d, e.set i (some l))
  | _ => .stuck
def lendX (i : Nat) (f : List D → Res D) (a : XA) : XM := fun e => var i e >>= fun _ => a e >>= fun p => var i p.2 >>= fun o => f (o :: p.1) >>= backX i p.2
/-- x.m(..), x's own object of class c -/
def lendM (c m : String) (i : Nat) (f : List D → Res D) (a : XA) : XM := fun e => var i e >>= fun o => match o with
  | .ins c' fs => if c' = c ∧ (fs.lookup m).isNone = true then lendX i f a e else .stuck
  | _ => .stuck
def tstX (a : XM) : XT := fun e => a e >>= fun p => truthy p.1 >>= fun b => .ok (b, p.2)
def orX (a b : XT) : XT := fun e => a e >>= fun p => if p.1 then .ok (true, p.2) else b p.2
def ifX (t : XT) (a b : XM) : XM := fun e => t e >>= fun p => if p.1 then a p.2 else b p.2
/-! statements -/
def asgX (g : GM) (m : XM) : SM := fun e => m e >>= fun p => lift (g p.1 p.2) >>= fun e' => .ok (.next e')
def iteX (t : XT) (a b : SM) : SM := fun e => t e >>= fun p => if p.1 then a p.2 else b p.2
/-- return of a def that was lent slot 0's object -/
def retL (m : XM) : SM := fun e => m e >>= fun p => var 0 p.2 >>= fun l => .ok (.ret (.tup [p.1, l]))
/-! an own instance's inner objects -/
def fldD (c f : String) : D → Res (List (String × D) × D)
  | .ins c' fs => if c' = c ∧ (fs.map (·.1)).Nodup then match fs.lookup f with | some d => .ok (fs, d) | none => .stuck else .stuck
  | _ => .stuck
/-- x.f.append(m) -/
def appF (i : Nat) (c f : String) (m : EM) : SM := fun e => var i e >>= fun o => fldD c f o >>= fun q => match q.2 with
  | .lst xs => m e >>= fun d => if xs.length < SZ then .ok (.next (e.set i (some (.ins c (putF f (.lst (xs ++ [d])) q.1))))) else .stuck
  | _ => .stuck
/-- x.f[j] = m, a dict -/
def setFD (i : Nat) (c f : String) (j m : EM) : SM := fun e => var i e >>= fun o => fldD c f o >>= fun q => match q.2 with
  | .dic t kvs => m e >>= fun d => j e >>= fun k => if keyOk t k && decide (kvs.length < SZ) then .ok (.next (e.set i (some (.ins c (putF f (.dic t (putD k d kvs)) q.1))))) else .stuck
  | _ => .stuck
/-- x.f = a new list or dict -/
def setFN (i : Nat) (cs : List String) (f : String) (m : EM) : SM := fun e => var i e >>= fun o => match o with
  | .ins c fs => if cs.contains c ∧ fs.length < 1000 ∧ (fs.lookup f).isNone = true then m e >>= fun d => .ok (.next (e.set i (some (.ins c (putF f d fs))))) else .stuck
  | _ => .stuck
/-! defs -/
def doneL (fl : Fl) : Res D := match fl with
  | .next e => match e[0]? with | some (some l) => .ok (.tup [.non, l]) | _ => .stuck
  | .ret d => .ok d
  | .brk _ => .stuck
  | .cnt _ => .stuck
/-- a def that is lent its first argument -/
def fnL (p n : Nat) (body : SM) (ds : List D) : Res D := if ds.length = p then body (ds.map some ++ List.replicate (n - p) none) >>= doneL else .stuck
/-- the frame e with the own slots of e2 -/
def mend (os : List Nat) (e e2 : Env) : Env := os.foldl (fun e i => match e2[i]? with | some o => e.set i o | none => e) e
/-- [m for ..], m changes a name's own object (os: the slots that own) -/
def compLX (f : D → Env → Res (Option D × Env)) : List D → Env → Res (List D × Env)
  | [], e => .ok ([], e)
  | x :: xs, e => f x e >>= fun o => compLX f xs o.2 >>= fun q => .ok (match o.1 with | some y => y :: q.1 | none => q.1, q.2)
def compFX (os vs : List Nat) (g : GM) (t : XT) (elt : XM) (x : D) (e : Env) : Res (Option D × Env) :=
  lift (g x (wipe e vs)) >>= fun e1 => t e1 >>= fun b => if b.1 then elt b.2 >>= fun p => .ok (some p.1, mend os e p.2) else .ok (none, mend os e b.2)
def lcX (os : List Nat) (it : IM) (vs : List Nat) (g : GM) (t : XT) (elt : XM) : XM := fun e => it e >>= fun xs =>
  noexc (compLX (compFX os vs g t elt) xs e) >>= fun q => chk xs.length (.lst q.1) >>= fun d => .ok (d, q.2)
end Py
/-! Displays of dicts with constant keys and values. -/
namespace Py
def dicS (kds : List (D × D)) : EM := fun _ => .ok (.dic false (kds.foldl (fun a q => putD q.1 q.2 a) []))
/-- return x.m(..), the arguments change x, x is given up -/
def retMX (i : Nat) (c m : String) (f : List D → Res D) (a : XA) : SM := fun e => var i e >>= fun o => match o with
  | .ins c' fs => if c' = c ∧ (fs.lookup m).isNone = true then a e >>= fun p => var i p.2 >>= fun o2 => f (o2 :: p.1) >>= fun d => .ok (.ret d) else .stuck
  | _ => .stuck
end Py
/-! What plain data look like in the abstract heap, and the readings that say: this code computes that. -/
namespace Py
open PySem L2
/-- the world in which the dicts' keys were hashed -/
class WI where
  w : World
/-- one stands in that world -/
class CW [WI] (X : Cx) : Prop where
  eq : X.w = WI.w
class HW [WI] (w : World) : Prop where
  eq : w = WI.w
variable [WI]
theorem ofS_inj {a b : String} (h : Str.ofString a = Str.ofString b) : a = b := by
  rw [Str.ofString_eq_toList, Str.ofString_eq_toList] at h
  have h1 : a.toList.map Char.toNat = b.toList.map Char.toNat := by
    have := congrArg (fun s : Str => s.cps.toList) h
    simpa using this
  have h2 : a.toList = b.toList := by
    have hc : ∀ x y : Char, x.toNat = y.toNat → x = y := fun x y e => by
      apply Char.ext
      apply UInt32.toNat_inj.mp
      exact e
    generalize a.toList = l at h1
    generalize b.toList = m at h1
    induction l generalizing m with
    | nil => cases m with
      | nil => rfl
      | cons _ _ => simp at h1
    | cons x l ih => cases m with
      | nil => simp at h1
      | cons y m =>
        simp only [List.map_cons, List.cons.injEq] at h1
        rw [hc _ _ h1.1, ih m h1.2]
  exact String.ext_iff.mpr h2
/-- an address set to be avoided -/
abbrev AS := Addr → Prop
/-- a key of a dict of numbers and texts -/
def kvK : D → Option Key
  | .int i => some (.inl i)
  | .str s => some (.inr (Str.ofString s))
  | _ => none
mutual
/-- a key, nested -/
def nk : D → Option NestedKey
  | .non => some .none
  | .bl b => some (.num (b2i b))
  | .int i => some (.num i)
  | .str s => some (.text (Str.ofString s))
  | .tup xs => (nkL xs).map .tup
  | _ => none
def nkL : List D → Option (List NestedKey)
  | [] => some []
  | d :: r => match nk d, nkL r with | some k, some ks => some (k :: ks) | _, _ => none
end
def entW (w : World) (x : NestedKey × Addr × Value) : DictEntry := ⟨x.1.hash w, .ref x.2.1, x.2.2⟩
/-- what a dict with tuple keys holds; its table as it stands -/
abbrev E3 := List (NestedKey × Addr × V) × (Array DictEntry × Nat)
def dicT (a : Addr) (es : E3) : HO := .ext fun h => (a == sysModules) = false ∧ es.1.length ≤ sizeLine ∧ ∃ xs : List (NestedKey × Addr × Value), Paired (fun p q => p.1 = q.1 ∧ p.2.1 = q.2.1 ∧ RelV p.2.2 q.2.2) es.1 xs ∧
  ∃ o, h.get? a = some o ∧ o.ExactDict ∧ o.data = .dict es.2.1 es.2.2 ∧ es.2.1.toList = xs.map (entW WI.w) ∧ (xs.map (·.1)).Nodup
/-- a pool of draws: the script's numbers at a0, a place in them, what is left of a cell, the mixer (k: and a count) -/
def PoolV (k : Bool) (a0 : Addr) : List V → Prop := fun vs => match k with
  | false => ∃ p c m : Int, vs = [.ref a0, .int p, .int c, .int m] ∧ 0 ≤ p ∧ 0 ≤ m ∧ m < 2147483647
  | true => ∃ p c j m : Int, vs = [.ref a0, .int p, .int c, .int j, .int m] ∧ 0 ≤ p ∧ 0 ≤ m ∧ m < 2147483647
def poolO (k : Bool) (a a0 : Addr) : HO := .ext fun h => ∃ (vs : List V) (its : List Value) (n : Nat), PoolV k a0 vs ∧ Vals vs its ∧ h.get? a = some { cls := .type "list", data := .seq its.toArray n }
mutual
def Rep (K : Frag) (A : AS) (H : Hp) : D → V → Prop
  | .non, v => v = .non
  | .bl b, v => v = .bl b
  | .int i, v => v = .int i
  | .str s, v => v = .str (Str.ofString s)
  | .tup xs, v => ∃ a vs, v = .ref a ∧ SqT K H a vs ∧ RepL K A H xs vs
  | .lst xs, v => ∃ a vs, v = .ref a ∧ ¬ A a ∧ Rd H a (.lst vs) ∧ RepL K A H xs vs
  | .dic t kvs, v => ∃ a, v = .ref a ∧ ¬ A a ∧ ((t = false ∧ ∃ ks, H a = some (.dK ks) ∧ RepK K A H kvs ks) ∨ (t = true ∧ ∃ es, H a = some (dicT a es) ∧ RepT K A H kvs es.1))
  | .ins c fs, v => ∃ a dx fvs, v = .ref a ∧ ¬ A a ∧ H a = some (.ins (ca K c) dx fvs) ∧ RepF K A H fs fvs
  | .drw (.inr q), v => v = .ref q.1 ∧ ¬ A q.1 ∧ Rd H q.1 (.lst (q.2.map V.int))
  | .drw (.inl k), v => ∃ a a0 xs, v = .ref a ∧ ¬ A a ∧ H a = some (poolO k a a0) ∧ ¬ A a0 ∧ Rd H a0 (.lst ((xs : List Int).map V.int))
def RepL (K : Frag) (A : AS) (H : Hp) : List D → List V → Prop
  | [], vs => vs = []
  | d :: ds, vs => ∃ v r, vs = v :: r ∧ Rep K A H d v ∧ RepL K A H ds r
def RepF (K : Frag) (A : AS) (H : Hp) : List (String × D) → List (Str × V) → Prop
  | [], fs => fs = []
  | (n, d) :: r, fs => ∃ v q, fs = (Str.ofString n, v) :: q ∧ Rep K A H d v ∧ RepF K A H r q
def RepK (K : Frag) (A : AS) (H : Hp) : List (D × D) → List (Key × V) → Prop
  | [], ks => ks = []
  | (k, d) :: r, ks => ∃ c v q, ks = (c, v) :: q ∧ kvK k = some c ∧ Rep K A H d v ∧ RepK K A H r q
def RepT (K : Frag) (A : AS) (H : Hp) : List (D × D) → List (NestedKey × Addr × V) → Prop
  | [], es => es = []
  | (k, d) :: r, es => ∃ c b v q, es = (c, b, v) :: q ∧ (nk k = some c ∧ keyOk true k = true) ∧ Rep K A H k (.ref b) ∧ Rep K A H d v ∧ RepT K A H r q
end
/-- what a dict at a holds -/
def DicAt (K : Frag) (A : AS) (H : Hp) (a : Addr) (t : Bool) (kvs : List (D × D)) : Prop := (t = false ∧ ∃ ks, H a = some (.dK ks) ∧ RepK K A H kvs ks) ∨ (t = true ∧ ∃ es, H a = some (dicT a es) ∧ RepT K A H kvs es.1)
theorem rep_dic {K : Frag} {A : AS} {H : Hp} {t : Bool} {kvs : List (D × D)} {v : V} : Rep K A H (.dic t kvs) v ↔ ∃ a, v = .ref a ∧ ¬ A a ∧ DicAt K A H a t kvs := by
  simp only [Rep]
  exact Iff.rfl
/-- a tuple never changes -/
def still : HO → Prop
  | .tup _ => True
  | .frz _ (.tup _) => True
  | _ => False
/-- from H to H': what is not in A is kept, the new A' has of the old heap only A -/
structure Mv (A : AS) (H : Hp) (A' : AS) (H' : Hp) : Prop where
  av : ∀ a, A' a → A a ∨ H a = none
  kp : ∀ a o, H a = some o → (¬ A a ∨ still o) → H' a = some o
theorem Mv.same {A : AS} {H H' : Hp} (s : Same H H') : Mv A H A H' := ⟨fun _ h => .inl h, fun a o e _ => s a o e⟩
theorem Mv.less {A A' : AS} {H : Hp} (s : ∀ a, A' a → A a) : Mv A H A' H := ⟨fun a h => .inl (s a h), fun _ _ e _ => e⟩
theorem Mv.refl {A : AS} {H : Hp} : Mv A H A H := .same (Same.refl H)
theorem Mv.trans {A A1 A2 : AS} {H H1 H2 : Hp} (h : Mv A H A1 H1) (k : Mv A1 H1 A2 H2) : Mv A H A2 H2 := by
  refine ⟨fun a x => ?_, fun a o e q => ?_⟩
  · rcases k.av a x with y | y
    · exact h.av a y
    · cases e : H a with
      | none => exact .inr rfl
      | some o =>
        by_cases hA : A a
        · exact .inl hA
        · rw [h.kp a o e (.inl hA)] at y
          cases y
  · refine k.kp a o (h.kp a o e q) ?_
    rcases q with q | q
    · refine .inl fun y => ?_
      rcases h.av a y with z | z
      · exact q z
      · rw [e] at z
        cases z
    · exact .inr q
theorem Rd.move {A A' : AS} {H H' : Hp} {a : Addr} {u : HO} (m : Mv A H A' H') (h : Rd H a u) (n : ¬ A a) : Rd H' a u ∧ ¬ A' a := by
  have key : ∀ o, H a = some o → H' a = some o ∧ ¬ A' a := fun o e => ⟨m.kp a o e (.inl n), fun x => by
    rcases m.av a x with y | y
    · exact n y
    · rw [e] at y
      cases y⟩
  rcases h with h | ⟨o, h⟩
  · exact ⟨.inl (key _ h).1, (key _ h).2⟩
  · exact ⟨.inr ⟨o, (key _ h).1⟩, (key _ h).2⟩
theorem SqT.move {K : Frag} {A A' : AS} {H H' : Hp} {a : Addr} {vs : List V} (m : Mv A H A' H') (h : SqT K H a vs) : SqT K H' a vs := by
  rcases h with (h | ⟨o, h⟩) | h
  · exact .inl (.inl (m.kp a _ h (.inr trivial)))
  · exact .inl (.inr ⟨o, m.kp a _ h (.inr trivial)⟩)
  · exact .inr h
mutual
theorem Rep.move {K : Frag} {A A' : AS} {H H' : Hp} (m : Mv A H A' H') : ∀ (d : D) (v : V), Rep K A H d v → Rep K A' H' d v
  | .non, _, h => h
  | .bl _, _, h => h
  | .int _, _, h => h
  | .str _, _, h => h
  | .tup xs, v, h => by
    simp only [Rep] at h ⊢
    obtain ⟨a, vs, e, q, r⟩ := h
    exact ⟨a, vs, e, SqT.move m q, RepL.move m xs vs r⟩
  | .lst xs, v, h => by
    simp only [Rep] at h ⊢
    obtain ⟨a, vs, e, n, q, r⟩ := h
    exact ⟨a, vs, e, (Rd.move m q n).2, (Rd.move m q n).1, RepL.move m xs vs r⟩
  | .dic t kvs, v, h => by
    simp only [Rep] at h ⊢
    obtain ⟨a, e, n, ⟨ht, ks, q, r⟩ | ⟨ht, es, q, r⟩⟩ := h
    · have z := Rd.move m (.inl q) n
      exact ⟨a, e, z.2, .inl ⟨ht, ks, m.kp a _ q (.inl n), RepK.move m kvs ks r⟩⟩
    · have z := Rd.move m (.inl q) n
      exact ⟨a, e, z.2, .inr ⟨ht, es, m.kp a _ q (.inl n), RepT.move m kvs es.1 r⟩⟩
  | .ins c fs, v, h => by
    simp only [Rep] at h ⊢
    obtain ⟨a, dx, fvs, e, n, q, r⟩ := h
    have z : Rd H' a _ ∧ ¬ A' a := Rd.move m (.inl q) n
    refine ⟨a, dx, fvs, e, z.2, ?_, RepF.move m fs fvs r⟩
    exact m.kp a _ q (.inl n)
  | .drw (.inr q), v, h => by
    simp only [Rep] at h ⊢
    exact ⟨h.1, (Rd.move m h.2.2 h.2.1).2, (Rd.move m h.2.2 h.2.1).1⟩
  | .drw (.inl k), v, h => by
    simp only [Rep] at h ⊢
    obtain ⟨a, a0, xs, e, n, q, n0, r⟩ := h
    have z : Rd H' a _ ∧ ¬ A' a := Rd.move m (.inl q) n
    exact ⟨a, a0, xs, e, z.2, m.kp a _ q (.inl n), (Rd.move m r n0).2, (Rd.move m r n0).1⟩
theorem RepL.move {K : Frag} {A A' : AS} {H H' : Hp} (m : Mv A H A' H') : ∀ (ds : List D) (vs : List V), RepL K A H ds vs → RepL K A' H' ds vs
  | [], vs, h => by
    simp only [RepL] at h ⊢
    exact h
  | d :: ds, vs, h => by
    simp only [RepL] at h ⊢
    obtain ⟨v, r, e, h1, h2⟩ := h
    exact ⟨v, r, e, Rep.move m d v h1, RepL.move m ds r h2⟩
theorem RepF.move {K : Frag} {A A' : AS} {H H' : Hp} (m : Mv A H A' H') : ∀ (ds : List (String × D)) (vs : List (Str × V)), RepF K A H ds vs → RepF K A' H' ds vs
  | [], vs, h => by
    simp only [RepF] at h ⊢
    exact h
  | (n, d) :: ds, vs, h => by
    simp only [RepF] at h ⊢
    obtain ⟨v, r, e, h1, h2⟩ := h
    exact ⟨v, r, e, Rep.move m d v h1, RepF.move m ds r h2⟩
theorem RepK.move {K : Frag} {A A' : AS} {H H' : Hp} (m : Mv A H A' H') : ∀ (ds : List (D × D)) (vs : List (Key × V)), RepK K A H ds vs → RepK K A' H' ds vs
  | [], vs, h => by
    simp only [RepK] at h ⊢
    exact h
  | (k, d) :: ds, vs, h => by
    simp only [RepK] at h ⊢
    obtain ⟨c, v, r, e, h0, h1, h2⟩ := h
    exact ⟨c, v, r, e, h0, Rep.move m d v h1, RepK.move m ds r h2⟩
theorem RepT.move {K : Frag} {A A' : AS} {H H' : Hp} (m : Mv A H A' H') : ∀ (ds : List (D × D)) (vs : List (NestedKey × Addr × V)), RepT K A H ds vs → RepT K A' H' ds vs
  | [], vs, h => by
    simp only [RepT] at h ⊢
    exact h
  | (k, d) :: ds, vs, h => by
    simp only [RepT] at h ⊢
    obtain ⟨c, b, v, r, e, h0, h1, h2, h3⟩ := h
    exact ⟨c, b, v, r, e, h0, Rep.move m k _ h1, Rep.move m d v h2, RepT.move m ds r h3⟩
end
theorem DicAt.move {K : Frag} {A A' : AS} {H H' : Hp} {a : Addr} {t : Bool} {kvs : List (D × D)} (m : Mv A H A' H') (k : H' a = H a) (h : DicAt K A H a t kvs) : DicAt K A' H' a t kvs := by
  rcases h with ⟨ht, ks, q, r⟩ | ⟨ht, es, q, r⟩
  · exact .inl ⟨ht, ks, k.trans q, RepK.move m kvs ks r⟩
  · exact .inr ⟨ht, es, k.trans q, RepT.move m kvs es.1 r⟩
theorem RepL.length {K : Frag} {A : AS} {H : Hp} : ∀ {ds : List D} {vs : List V}, RepL K A H ds vs → ds.length = vs.length
  | [], vs, h => by
    simp only [RepL] at h
    subst h
    rfl
  | d :: ds, vs, h => by
    simp only [RepL] at h
    obtain ⟨v, r, rfl, h1, h2⟩ := h
    simp [RepL.length h2]
theorem RepL.get {K : Frag} {A : AS} {H : Hp} : ∀ {ds : List D} {vs : List V} {i : Nat} {d : D}, RepL K A H ds vs → ds[i]? = some d → ∃ v, vs[i]? = some v ∧ Rep K A H d v
  | [], vs, i, d, h, e => by simp at e
  | d0 :: ds, vs, i, d, h, e => by
    simp only [RepL] at h
    obtain ⟨v, r, rfl, h1, h2⟩ := h
    cases i with
    | zero =>
      simp at e
      subst e
      exact ⟨v, rfl, h1⟩
    | succ i =>
      obtain ⟨w, q1, q2⟩ := RepL.get (i := i) h2 (by simpa using e)
      exact ⟨w, by simpa using q1, q2⟩
theorem RepL.append {K : Frag} {A : AS} {H : Hp} : ∀ {ds es : List D} {vs ws : List V}, RepL K A H ds vs → RepL K A H es ws → RepL K A H (ds ++ es) (vs ++ ws)
  | [], es, vs, ws, h, k => by
    simp only [RepL] at h
    subst h
    exact k
  | d :: ds, es, vs, ws, h, k => by
    simp only [RepL] at h
    obtain ⟨v, r, rfl, h1, h2⟩ := h
    simp only [List.cons_append, RepL]
    exact ⟨v, r ++ ws, rfl, h1, RepL.append h2 k⟩
theorem RepL.drop {K : Frag} {A : AS} {H : Hp} : ∀ {ds : List D} {vs : List V} (n : Nat), RepL K A H ds vs → RepL K A H (ds.drop n) (vs.drop n)
  | ds, vs, 0, h => h
  | [], vs, n + 1, h => by
    simp only [RepL] at h
    subst h
    simp [RepL]
  | d :: ds, vs, n + 1, h => by
    simp only [RepL] at h
    obtain ⟨v, r, rfl, h1, h2⟩ := h
    exact RepL.drop n h2
theorem RepL.take {K : Frag} {A : AS} {H : Hp} : ∀ {ds : List D} {vs : List V} (n : Nat), RepL K A H ds vs → RepL K A H (ds.take n) (vs.take n)
  | ds, vs, 0, h => by simp [RepL]
  | [], vs, n + 1, h => by
    simp only [RepL] at h
    subst h
    simp [RepL]
  | d :: ds, vs, n + 1, h => by
    simp only [RepL] at h
    obtain ⟨v, r, rfl, h1, h2⟩ := h
    simp only [List.take_succ_cons, RepL]
    exact ⟨v, _, rfl, h1, RepL.take n h2⟩
theorem RepL.set {K : Frag} {A : AS} {H : Hp} {d : D} {v : V} (hd : Rep K A H d v) : ∀ {ds : List D} {vs : List V} (n : Nat), RepL K A H ds vs → RepL K A H (ds.set n d) (vs.set n v)
  | [], vs, n, h => by
    simp only [RepL] at h
    subst h
    simp [RepL]
  | d0 :: ds, vs, 0, h => by
    simp only [RepL] at h
    obtain ⟨w, r, rfl, h1, h2⟩ := h
    simp only [List.set_cons_zero, RepL]
    exact ⟨v, r, rfl, hd, h2⟩
  | d0 :: ds, vs, n + 1, h => by
    simp only [RepL] at h
    obtain ⟨w, r, rfl, h1, h2⟩ := h
    simp only [List.set_cons_succ, RepL]
    exact ⟨w, _, rfl, h1, RepL.set hd n h2⟩
theorem RepL.one {K : Frag} {A : AS} {H : Hp} {d : D} {v : V} (h : Rep K A H d v) : RepL K A H [d] [v] := by
  simp only [RepL]
  exact ⟨v, [], rfl, h, rfl⟩
theorem RepF.look {K : Frag} {A : AS} {H : Hp} {f : String} : ∀ {fs : List (String × D)} {vs : List (Str × V)}, RepF K A H fs vs →
    match fs.lookup f with | some d => ∃ v, vs.lookup (Str.ofString f) = some v ∧ Rep K A H d v | none => vs.lookup (Str.ofString f) = none
  | [], vs, h => by
    simp only [RepF] at h
    subst h
    rfl
  | (n, d) :: fs, vs, h => by
    simp only [RepF] at h
    obtain ⟨v, r, rfl, h1, h2⟩ := h
    by_cases e : f = n
    · subst e
      simp only [List.lookup_cons, beq_self_eq_true]
      exact ⟨v, rfl, h1⟩
    · have e2 : (Str.ofString f == Str.ofString n) = false := beq_eq_false_iff_ne.mpr fun q => e (ofS_inj q)
      have e3 : (f == n) = false := beq_eq_false_iff_ne.mpr e
      simp only [List.lookup_cons, e2, e3]
      exact RepF.look h2
theorem RepF.length {K : Frag} {A : AS} {H : Hp} : ∀ {fs : List (String × D)} {vs : List (Str × V)}, RepF K A H fs vs → fs.length = vs.length
  | [], vs, h => by
    simp only [RepF] at h
    subst h
    rfl
  | (n, d) :: fs, vs, h => by
    simp only [RepF] at h
    obtain ⟨v, r, rfl, h1, h2⟩ := h
    simp [RepF.length h2]
/-! ### the frame -/
/-- what a name's own list or dict at a holds -/
def OwnAt (K : Frag) (A : AS) (H : Hp) (a : Addr) : D → Prop
  | .lst ds => ∃ vs, H a = some (.lst vs) ∧ RepL K A H ds vs
  | .dic t kvs => DicAt K A H a t kvs
  | _ => False
theorem OwnAt.move {K : Frag} {A A' : AS} {H H' : Hp} {a : Addr} {d : D} (m : Mv A H A' H') (k : H' a = H a) (h : OwnAt K A H a d) : OwnAt K A' H' a d := by
  cases d with
  | lst ds =>
    obtain ⟨vs, e, r⟩ := h
    exact ⟨vs, k.trans e, RepL.move m _ _ r⟩
  | dic t kvs => exact DicAt.move m k h
  | _ => exact h
theorem OwnAt.obj {K : Frag} {A : AS} {H : Hp} {a : Addr} {d : D} (h : OwnAt K A H a d) : ∃ u, H a = some u ∧ ¬ still u ∧ ∀ fvs, u ≠ .xd fvs := by
  cases d with
  | lst ds =>
    obtain ⟨vs, e, _⟩ := h
    exact ⟨_, e, fun z => z, fun _ z => nomatch z⟩
  | dic t kvs =>
    rcases h with ⟨_, ks, e, _⟩ | ⟨_, es, e, _⟩
    · exact ⟨_, e, fun z => z, fun _ z => nomatch z⟩
    · exact ⟨_, e, fun z => z, fun _ z => nomatch z⟩
  | _ => exact h.elim
/-- what is owned is a value for those who leave it alone -/
theorem OwnAt.rep {K : Frag} {A A' : AS} {H : Hp} {a : Addr} {d : D} (m : Mv A H A' H) (n : ¬ A' a) (h : OwnAt K A H a d) : Rep K A' H d (.ref a) := by
  cases d with
  | lst ds =>
    obtain ⟨vs, e, r⟩ := h
    simp only [Rep]
    exact ⟨a, vs, rfl, n, .inl e, RepL.move m _ _ r⟩
  | dic t kvs => exact rep_dic.mpr ⟨a, rfl, n, DicAt.move m rfl h⟩
  | _ => exact h.elim
/-- the fields of an own instance that hold an inner object of its own -/
def inn (c f : String) : Bool := (c == "Builder" && (f == "deeds" || f == "numbers")) || (c == "PlainMaker" && f == "deeds") || (c == "Desk" && f == "kept")
def ixF (f : String) : Bool := f == "numbers"
abbrev GW := Bool → Option Addr
/-- an own instance's field; G: its inner objects -/
def FldI (K : Frag) (A : AS) (G : GW) (H : Hp) (n : String) (d : D) (v : V) : Bool → Prop
  | true => ∃ b, G (ixF n) = some b ∧ v = .ref b ∧ OwnAt K A H b d
  | false => Rep K A H d v
def RepI (K : Frag) (A : AS) (G : GW) (H : Hp) (c : String) : List (String × D) → List (Str × V) → Prop
  | [], fs => fs = []
  | (n, d) :: r, fs => ∃ v q, fs = (Str.ofString n, v) :: q ∧ FldI K A G H n d v (inn c n) ∧ RepI K A G H c r q
/-- what a name's own object at a holds, with inner objects -/
def OwnG (K : Frag) (A : AS) (G : GW) (H : Hp) (a : Addr) : D → Prop
  | .lst ds => ∃ vs, H a = some (.lst vs) ∧ RepL K A H ds vs
  | .ins c fs => ∃ dx fvs, H a = some (.ins (ca K c) dx fvs) ∧ RepI K A G H c fs fvs
  | .dic t kvs => DicAt K A H a t kvs
  | _ => False
theorem OwnAt.g {K : Frag} {A : AS} {G : GW} {H : Hp} {a : Addr} {d : D} (h : OwnAt K A H a d) : OwnG K A G H a d := by
  cases d <;> first | exact h | exact h.elim
theorem RepI.move {K : Frag} {A A' : AS} {G G' : GW} {H H' : Hp} {c : String} (m : Mv A H A' H') (kg : ∀ t b, G t = some b → G' t = some b ∧ H' b = H b) : ∀ {fs : List (String × D)} {vs : List (Str × V)}, RepI K A G H c fs vs → RepI K A' G' H' c fs vs
  | [], vs, h => h
  | (n, d) :: fs, vs, h => by
    obtain ⟨v, q, e, h1, h2⟩ := h
    refine ⟨v, q, e, ?_, RepI.move m kg h2⟩
    cases hi : inn c n with
    | true =>
      rw [hi] at h1
      obtain ⟨b, g, e2, o⟩ := h1
      exact ⟨b, (kg _ _ g).1, e2, o.move m (kg _ _ g).2⟩
    | false =>
      rw [hi] at h1
      exact Rep.move m d v h1
theorem RepI.rep {K : Frag} {A A' : AS} {G : GW} {H : Hp} {c : String} (m : Mv A H A' H) (ng : ∀ t b, G t = some b → ¬ A' b) : ∀ {fs : List (String × D)} {vs : List (Str × V)}, RepI K A G H c fs vs → RepF K A' H fs vs
  | [], vs, h => by
    simp only [RepF]
    exact h
  | (n, d) :: fs, vs, h => by
    obtain ⟨v, q, e, h1, h2⟩ := h
    simp only [RepF]
    refine ⟨v, q, e, ?_, RepI.rep m ng h2⟩
    cases hi : inn c n with
    | true =>
      rw [hi] at h1
      obtain ⟨b, g, rfl, o⟩ := h1
      exact o.rep m (ng _ _ g)
    | false =>
      rw [hi] at h1
      exact Rep.move m d v h1
theorem RepI.length {K : Frag} {A : AS} {G : GW} {H : Hp} {c : String} : ∀ {fs : List (String × D)} {vs : List (Str × V)}, RepI K A G H c fs vs → fs.length = vs.length
  | [], vs, h => by
    cases h
    rfl
  | (n, d) :: fs, vs, h => by
    obtain ⟨v, q, rfl, h1, h2⟩ := h
    simp [RepI.length h2]
theorem RepI.put {K : Frag} {A : AS} {G : GW} {H : Hp} {c f : String} {d : D} {v : V} (hd : FldI K A G H f d v (inn c f)) : ∀ {fs : List (String × D)} {vs : List (Str × V)}, RepI K A G H c fs vs → RepI K A G H c (putF f d fs) (L2.putF (Str.ofString f) v vs)
  | [], vs, h => by
    cases h
    exact ⟨v, [], rfl, hd, rfl⟩
  | (n, d0) :: fs, vs, h => by
    obtain ⟨w, r, rfl, h1, h2⟩ := h
    by_cases e : n = f
    · subst e
      simp only [putF, L2.putF, if_pos]
      exact ⟨v, r, rfl, hd, h2⟩
    · have e2 : ¬ Str.ofString n = Str.ofString f := fun q => e (ofS_inj q)
      simp only [putF, L2.putF, if_neg e, if_neg e2]
      exact ⟨w, _, rfl, h1, RepI.put hd h2⟩
theorem RepI.look {K : Frag} {A : AS} {G : GW} {H : Hp} {c f : String} : ∀ {fs : List (String × D)} {vs : List (Str × V)} {d : D}, RepI K A G H c fs vs → fs.lookup f = some d → ∃ v, vs.lookup (Str.ofString f) = some v ∧ FldI K A G H f d v (inn c f)
  | [], vs, d, h, z => by cases z
  | (n, d0) :: fs, vs, d, h, z => by
    obtain ⟨v, r, rfl, h1, h2⟩ := h
    by_cases e : f = n
    · subst e
      simp only [List.lookup_cons, beq_self_eq_true, Option.some.injEq] at z ⊢
      subst z
      exact ⟨v, rfl, h1⟩
    · have e2 : (Str.ofString f == Str.ofString n) = false := beq_eq_false_iff_ne.mpr fun q => e (ofS_inj q)
      have e3 : (f == n) = false := beq_eq_false_iff_ne.mpr e
      simp only [List.lookup_cons, e2, e3] at z ⊢
      exact RepI.look h2 z
theorem OwnG.move {K : Frag} {A A' : AS} {G G' : GW} {H H' : Hp} {a : Addr} {d : D} (m : Mv A H A' H') (k : H' a = H a) (kg : ∀ t b, G t = some b → G' t = some b ∧ H' b = H b) (h : OwnG K A G H a d) : OwnG K A' G' H' a d := by
  cases d with
  | lst ds =>
    obtain ⟨vs, e, r⟩ := h
    exact ⟨vs, k.trans e, RepL.move m _ _ r⟩
  | ins c fs =>
    obtain ⟨dx, fvs, e, r⟩ := h
    exact ⟨dx, fvs, k.trans e, r.move m kg⟩
  | dic t kvs => exact DicAt.move m k h
  | _ => exact h
theorem OwnG.obj {K : Frag} {A : AS} {G : GW} {H : Hp} {a : Addr} {d : D} (h : OwnG K A G H a d) : ∃ u, H a = some u ∧ ¬ still u ∧ ∀ fvs, u ≠ .xd fvs := by
  cases d with
  | lst ds => exact OwnAt.obj (d := .lst ds) h
  | ins c fs =>
    obtain ⟨dx, fvs, e, _⟩ := h
    exact ⟨_, e, fun z => z, fun _ z => nomatch z⟩
  | dic t kvs => exact OwnAt.obj (d := .dic t kvs) h
  | _ => exact h.elim
/-- what is owned is a value for those who leave it alone -/
theorem OwnG.rep {K : Frag} {A A' : AS} {G : GW} {H : Hp} {a : Addr} {d : D} (m : Mv A H A' H) (n : ¬ A' a) (ng : ∀ t b, G t = some b → ¬ A' b) (h : OwnG K A G H a d) : Rep K A' H d (.ref a) := by
  cases d with
  | lst ds => exact OwnAt.rep (d := .lst ds) m n h
  | ins c fs =>
    obtain ⟨dx, fvs, e, r⟩ := h
    simp only [Rep]
    exact ⟨a, dx, fvs, rfl, n, e, r.rep m ng⟩
  | dic t kvs => exact OwnAt.rep (d := .dic t kvs) m n h
  | _ => exact h.elim
abbrev OW := Nat → Option Addr
/-- slot i's object stands at place 3 i, its inner ones behind it -/
def gh (O : OW) (i : Nat) : GW := fun t => O (3 * i + if t then 2 else 1)
def AO (A : AS) (O : OW) : AS := fun a => A a ∨ ∃ i, O i = some a
/-- the heap at the entry; the object that slot 0 owns throughout (an __init__'s self) -/
structure Base where
  hp : Hp
  px : Option Addr
/-- what is known of a caught error: the slot of its name, where it stands, where its dict stands, what that holds -/
structure Xh where
  i : Nat
  a : Addr
  da : Addr
  fs : List (String × D)
/-- which names own; in an except suite: the caught error -/
structure Ow where
  f : Nat → Bool
  x : Option Xh
instance : CoeFun Ow (fun _ => Nat → Bool) := ⟨Ow.f⟩
@[reducible] def Ow.off (o : Ow) : Ow := ⟨fun i => match o.x with | some q => i == q.i | none => false, o.x⟩
structure XAt (K : Frag) (A : AS) (H : Hp) (σ : L2.St) (e : Env) (f : Nat → Bool) (q : Xh) : Prop where
  own : f q.i = true
  slot : σ[q.i]? = some (some (.ref q.a))
  no : ∀ d, e[q.i]? ≠ some (some d)
  xd : ∃ fvs, H q.da = some (.xd fvs) ∧ RepF K A H q.fs fvs
def XFact (K : Frag) (A : AS) (H : Hp) (σ : L2.St) (e : Env) (o : Ow) : Prop := ∀ q, o.x = some q → XAt K A H σ e o.f q
theorem XFact.none {K : Frag} {A : AS} {H : Hp} {σ : L2.St} {e : Env} {o : Ow} (h : o.x = none) : XFact K A H σ e o := fun q z => by
  rw [h] at z
  cases z
theorem XFact.move {K : Frag} {A A' : AS} {H H' : Hp} {σ σ' : L2.St} {e e' : Env} {o : Ow} (m : Mv A H A' H') (k : ∀ da fvs, H da = some (.xd fvs) → H' da = some (.xd fvs)) (s : ∀ i, o i = true → (∀ d, e[i]? ≠ some (some d)) → σ'[i]? = σ[i]? ∧ ∀ d, e'[i]? ≠ some (some d))
    (h : XFact K A H σ e o) : XFact K A' H' σ' e' o := fun q hq => by
  obtain ⟨h1, h2, h3, fvs, h4, h5⟩ := h q hq
  obtain ⟨s1, s2⟩ := s q.i h1 h3
  exact ⟨h1, s1.trans h2, s2, fvs, k _ _ h4, RepF.move m _ _ h5⟩
theorem XFact.heap {K : Frag} {A A' : AS} {H H' : Hp} {σ : L2.St} {e : Env} {o : Ow} (m : Mv A H A' H') (k : ∀ da fvs, H da = some (.xd fvs) → H' da = some (.xd fvs)) (h : XFact K A H σ e o) : XFact K A' H' σ e o := h.move m k fun i _ n => ⟨rfl, n⟩
/-- the frame's slots hold these data; ow: the names that own what they hold; H0: the heap at the entry -/
structure ER (K : Frag) (A : AS) (H0 : Base) (ow : Ow) (O : OW) (σ : L2.St) (H : Hp) (e : Env) : Prop where
  len : σ.length = e.length
  a0 : ∀ a, A a → H a ≠ none
  same : Same H0.hp H
  vals : ∀ i d, e[i]? = some (some d) → ow i = false → ∃ v, σ[i]? = some (some v) ∧ Rep K (AO A O) H d v
  owns : ∀ i d, e[i]? = some (some d) → ow i = true → ∃ a, O (3 * i) = some a ∧ σ[i]? = some (some (.ref a)) ∧ OwnG K (AO A O) (gh O i) H a d
  fresh : ∀ i a, O i = some a → H0.hp a = none ∧ H a ≠ none ∧ ¬ A a
  inj : ∀ i j a, O i = some a → O j = some a → i = j
  pin : ∀ a, H0.px = some a → O 0 = some a
  exq : XFact K (AO A O) H σ e ow
section
variable {K : Frag} {A : AS} {H0 : Base} {ow : Ow} {O : OW} {σ : L2.St} {H H' : Hp} {e : Env}
theorem ne_none {H H' : Hp} {a : Addr} (s : Same H H') (h : H a ≠ none) : H' a ≠ none := by
  cases q : H a with
  | none => exact absurd q h
  | some o =>
    rw [s a o q]
    exact fun z => nomatch z
theorem ER.there (R : ER K A H0 ow O σ H e) : ∀ a, AO A O a → H a ≠ none := fun a h => by
  rcases h with h | ⟨i, h⟩
  · exact R.a0 a h
  · exact (R.fresh i a h).2.1
theorem ER.kept (R : ER K A H0 ow O σ H e) (s : Same H H') {i : Nat} {a : Addr} (h : O i = some a) : H' a = H a := by
  cases z : H a with
  | none => exact absurd z (R.fresh i a h).2.1
  | some o => exact s a o z
theorem ER.to (R : ER K A H0 ow O σ H e) (s : Same H H') : ER K A H0 ow O σ H' e :=
  ⟨R.len, fun a h => ne_none s (R.a0 a h), R.same.trans s, fun i d h1 h2 => let ⟨v, q, r⟩ := R.vals i d h1 h2; ⟨v, q, Rep.move (Mv.same s) d v r⟩,
    fun i d h1 h2 => let ⟨a, q, q2, r⟩ := R.owns i d h1 h2; ⟨a, q, q2, r.move (Mv.same s) (R.kept s q) fun t b z => ⟨z, R.kept s z⟩⟩,
    fun i a h => ⟨(R.fresh i a h).1, ne_none s (R.fresh i a h).2.1, (R.fresh i a h).2.2⟩, R.inj, R.pin, R.exq.heap (Mv.same s) fun da fvs e => s _ _ e⟩
/-- a name takes a value -/
theorem ER.set (R : ER K A H0 ow O σ H e) {i : Nat} {d : D} {v : V} (hi : ow i = false) (r : Rep K (AO A O) H d v) : ER K A H0 ow O (σ.set i (some v)) H (e.set i (some d)) := by
  refine ⟨by simp [R.len], R.a0, R.same, fun j d' h1 h2 => ?_, fun j d' h1 h2 => ?_, R.fresh, R.inj, R.pin, R.exq.move Mv.refl (fun _ _ e => e) fun j hj n => ?_⟩
  rotate_right
  · have hne : i ≠ j := fun z => by
      rw [z, hj] at hi
      cases hi
    rw [List.getElem?_set_ne hne, List.getElem?_set_ne hne]
    exact ⟨rfl, n⟩
  · by_cases hj : i = j
    · subst hj
      have hl : i < e.length := by
        have := (List.getElem?_eq_some_iff.mp h1).1
        simpa using this
      rw [List.getElem?_set_self hl] at h1
      cases h1
      exact ⟨v, List.getElem?_set_self (by rw [R.len]; exact hl), r⟩
    · rw [List.getElem?_set_ne hj] at h1
      rw [List.getElem?_set_ne hj]
      exact R.vals j d' h1 h2
  · have hj : i ≠ j := fun z => by
      subst z
      rw [hi] at h2
      cases h2
    rw [List.getElem?_set_ne hj] at h1
    rw [List.getElem?_set_ne hj]
    exact R.owns j d' h1 h2
/-- names forgotten -/
theorem ER.sub {e' : Env} {σ' : L2.St} (R : ER K A H0 ow O σ H e) (hl : σ'.length = e'.length) (h : ∀ (i : Nat) (d : D), e'[i]? = some (some d) → e[i]? = some (some d) ∧ σ'[i]? = σ[i]?) (hx : ∀ q : Xh, ow.x = some q → σ'[q.i]? = σ[q.i]?) : ER K A H0 ow O σ' H e' :=
  ⟨hl, R.a0, R.same, fun i d h1 h2 => by rw [(h i d h1).2]; exact R.vals i d (h i d h1).1 h2, fun i d h1 h2 => by rw [(h i d h1).2]; exact R.owns i d (h i d h1).1 h2, R.fresh, R.inj, R.pin, fun q hq => by
    obtain ⟨h1, h2, h3, h4⟩ := R.exq q hq
    exact ⟨h1, (hx q hq).trans h2, fun d z => h3 d (h _ d z).1, h4⟩⟩
end
theorem wipe_env (vs : List Nat) (e : Env) (i : Nat) (d : D) (h : (wipe e vs)[i]? = some (some d)) : e[i]? = some (some d) ∧ i ∉ vs := by
  induction vs with
  | nil => exact ⟨h, by simp⟩
  | cons j r ih =>
    unfold wipe at h
    by_cases hj : j = i
    · subst hj
      by_cases hl : j < (wipe e r).length
      · rw [List.getElem?_set_self hl] at h
        cases h
      · rw [List.getElem?_eq_none (by simp; omega)] at h
        cases h
    · rw [List.getElem?_set_ne hj] at h
      obtain ⟨a, b⟩ := ih h
      exact ⟨a, by simp [b, Ne.symm hj]⟩
theorem wipe_len (vs : List Nat) (e : Env) : (wipe e vs).length = e.length := by
  induction vs with
  | nil => rfl
  | cons j r ih => unfold wipe; simp [ih]
theorem ER.wipe {K : Frag} {A : AS} {H0 : Base} {ow : Ow} {O : OW} {σ : L2.St} {H : Hp} {e : Env} (R : ER K A H0 ow O σ H e) (vs : List Nat) (hx : ow.x = none) : ER K A H0 ow O (L2.wipe σ vs) H (Py.wipe e vs) :=
  R.sub (by rw [L2.wipe_length, wipe_len, R.len]) (fun i d h => ⟨(wipe_env vs e i d h).1, L2.wipe_out (wipe_env vs e i d h).2⟩) fun q hq => by
    rw [hx] at hq
    cases hq
/-! ### readings -/
def Out {α : Type} (r : Res α) (good : α → Prop) (bad : String → List (String × D) → Prop) : Prop := match r with
  | .ok a => good a
  | .exc c fs => bad c fs
  | .stuck => False
  | .pick n k => ∀ i, i ≤ n → Out (k i) good bad
/-- a may come of it -/
def Res.leaf {α : Type} (a : α) : Res α → Prop
  | .ok b => b = a
  | .exc _ _ => False
  | .stuck => False
  | .pick n k => ∃ i, i ≤ n ∧ Res.leaf a (k i)
theorem Out.bind {α β : Type} {r : Res α} {f : α → Res β} {good : β → Prop} {bad : String → List (String × D) → Prop} (h : Out (r >>= f) good bad) : Out r (fun a => Out (f a) good bad) bad := by
  induction r with
  | ok a => exact h
  | exc c fs => exact h
  | stuck => exact h
  | pick n k ih =>
    rw [bind_pick] at h
    exact fun i hi => ih i (h i hi)
theorem Out.imp {α : Type} {r : Res α} {good good' : α → Prop} {bad bad' : String → List (String × D) → Prop} (h : Out r good bad) (hg : ∀ a, Res.leaf a r → good a → good' a) (hb : ∀ c fs, bad c fs → bad' c fs) : Out r good' bad' := by
  induction r with
  | ok a => exact hg a rfl h
  | exc c fs => exact hb c fs h
  | stuck => exact h
  | pick n k ih => exact fun i hi => ih i (h i hi) fun a l => hg a ⟨i, hi, l⟩
theorem Out.good {α : Type} {r : Res α} {good good' : α → Prop} {bad : String → List (String × D) → Prop} (h : Out r good bad) (hg : ∀ a, good a → good' a) : Out r good' bad := h.imp (fun a _ => hg a) fun _ _ x => x
theorem Out.noexc {α : Type} {r : Res α} {good : α → Prop} {bad bad' : String → List (String × D) → Prop} (h : Out (noexc r) good bad) : Out r good bad' := by
  induction r with
  | ok a => exact h
  | exc c fs => exact h.elim
  | stuck => exact h
  | pick n k ih => exact fun i hi => ih i (h i hi)
abbrev Nev : String → List (String × D) → Prop := fun _ _ => False
theorem Out.void {α : Type} {r : Res α} (h : Out r (fun _ => False) Nev) : False := by
  induction r with
  | ok a => exact h
  | exc c fs => exact h
  | stuck => exact h
  | pick n k ih => exact ih 0 (h 0 (Nat.zero_le _))
/-- what an exception must show that leaves an expression -/
def badE (K : Frag) (W : WX) (A : AS) (O : OW) (σ : L2.St) (H : Hp) (c : String) (fs : List (String × D)) : Prop :=
  ∀ da H' fvs, Same H H' → H' da = some (.xd fvs) → RepF K (AO A O) H' fs fvs → W (.ref (ca K c)) (some da) σ H'
theorem badE.to {K : Frag} {W : WX} {A : AS} {O : OW} {σ : L2.St} {H H1 : Hp} (s : Same H H1) {c : String} {fs : List (String × D)} (h : badE K W A O σ H c fs) : badE K W A O σ H1 c fs := fun da H' fvs s' => h da H' fvs (s.trans s')
theorem Out.to {K : Frag} {W : WX} {A : AS} {O : OW} {σ : L2.St} {H H1 : Hp} {α : Type} {r : Res α} {good : α → Prop} (s : Same H H1) (h : Out r good (badE K W A O σ H)) : Out r good (badE K W A O σ H1) := h.imp (fun _ _ x => x) fun _ _ x => x.to s
/-- a value that may be a name's own list or dict: what is within it is clean -/
def RepU (K : Frag) (A : AS) (H : Hp) : D → V → Prop
  | .lst xs, v => ∃ a vs, v = .ref a ∧ Rd H a (.lst vs) ∧ RepL K A H xs vs
  | .dic t kvs, v => ∃ a, v = .ref a ∧ DicAt K A H a t kvs
  | d, v => Rep K A H d v
theorem RepU.of {K : Frag} {A : AS} {H : Hp} {d : D} {v : V} (h : Rep K A H d v) : RepU K A H d v := by
  cases d with
  | lst xs =>
    simp only [Rep] at h
    obtain ⟨a, vs, e, _, q, r⟩ := h
    exact ⟨a, vs, e, q, r⟩
  | dic t kvs =>
    obtain ⟨a, e, _, q⟩ := rep_dic.mp h
    exact ⟨a, e, q⟩
  | _ => exact h
theorem RepU.own {K : Frag} {A : AS} {H : Hp} {d : D} {b : Addr} (h : OwnAt K A H b d) : RepU K A H d (.ref b) := by
  cases d with
  | lst xs =>
    obtain ⟨vs, e, r⟩ := h
    exact ⟨b, vs, rfl, .inl e, r⟩
  | dic t kvs => exact ⟨b, rfl, h⟩
  | _ => exact h.elim
theorem RepU.none {K : Frag} {A : AS} {H : Hp} {d : D} {v : V} (h : RepU K A H d v) : Rep K (fun _ => False) H d v := by
  have z : Mv A H (fun _ => False) H := Mv.less fun _ x => x.elim
  cases d with
  | lst xs =>
    obtain ⟨a, vs, e, q, r⟩ := h
    simp only [Rep]
    exact ⟨a, vs, e, fun x => x, q, RepL.move z _ _ r⟩
  | dic t kvs =>
    obtain ⟨a, e, q⟩ := h
    exact rep_dic.mpr ⟨a, e, fun x => x, q.move z rfl⟩
  | _ => exact Rep.move z _ _ h
/-- the fields, the inner objects among them -/
def RepV (K : Frag) (A : AS) (H : Hp) (c : String) : List (String × D) → List (Str × V) → Prop
  | [], fs => fs = []
  | (n, d) :: r, fs => ∃ v q, fs = (Str.ofString n, v) :: q ∧ (match inn c n with | true => RepU K A H d v | false => Rep K A H d v) ∧ RepV K A H c r q
theorem RepV.of {K : Frag} {A : AS} {H : Hp} {c : String} : ∀ {fs : List (String × D)} {vs : List (Str × V)}, RepF K A H fs vs → RepV K A H c fs vs
  | [], vs, h => by simpa only [RepF, RepV] using h
  | (n, d) :: fs, vs, h => by
    simp only [RepF] at h
    obtain ⟨v, q, e, h1, h2⟩ := h
    refine ⟨v, q, e, ?_, RepV.of h2⟩
    cases inn c n with
    | true => exact RepU.of h1
    | false => exact h1
theorem RepV.own {K : Frag} {A : AS} {G : GW} {H : Hp} {c : String} : ∀ {fs : List (String × D)} {vs : List (Str × V)}, RepI K A G H c fs vs → RepV K A H c fs vs
  | [], vs, h => h
  | (n, d) :: fs, vs, h => by
    obtain ⟨v, q, e, h1, h2⟩ := h
    refine ⟨v, q, e, ?_, RepV.own h2⟩
    cases hi : inn c n with
    | true =>
      rw [hi] at h1
      obtain ⟨b, g, rfl, o⟩ := h1
      exact RepU.own o
    | false =>
      rw [hi] at h1
      exact h1
theorem RepV.none {K : Frag} {A : AS} {H : Hp} {c : String} : ∀ {fs : List (String × D)} {vs : List (Str × V)}, RepV K A H c fs vs → RepF K (fun _ => False) H fs vs
  | [], vs, h => by
    simp only [RepF]
    exact h
  | (n, d) :: fs, vs, h => by
    obtain ⟨v, q, e, h1, h2⟩ := h
    simp only [RepF]
    refine ⟨v, q, e, ?_, RepV.none h2⟩
    cases hi : inn c n with
    | true =>
      rw [hi] at h1
      exact RepU.none h1
    | false =>
      rw [hi] at h1
      exact Rep.move (Mv.less fun _ x => x.elim) _ _ h1
theorem RepV.look {K : Frag} {A : AS} {H : Hp} {c f : String} : ∀ {fs : List (String × D)} {vs : List (Str × V)} {d : D}, RepV K A H c fs vs → fs.lookup f = some d → ∃ v, vs.lookup (Str.ofString f) = some v ∧ (match inn c f with | true => RepU K A H d v | false => Rep K A H d v)
  | [], vs, d, h, z => by cases z
  | (n, d0) :: fs, vs, d, h, z => by
    obtain ⟨v, r, rfl, h1, h2⟩ := h
    by_cases e : f = n
    · subst e
      simp only [List.lookup_cons, beq_self_eq_true, Option.some.injEq] at z ⊢
      subst z
      exact ⟨v, rfl, h1⟩
    · have e2 : (Str.ofString f == Str.ofString n) = false := beq_eq_false_iff_ne.mpr fun q => e (ofS_inj q)
      have e3 : (f == n) = false := beq_eq_false_iff_ne.mpr e
      simp only [List.lookup_cons, e2, e3] at z ⊢
      exact RepV.look h2 z
/-- .. or an object -/
def RepW (K : Frag) (A : AS) (H : Hp) : D → V → Prop
  | .lst xs, v => ∃ a vs, v = .ref a ∧ Rd H a (.lst vs) ∧ RepL K A H xs vs
  | .ins c fs, v => ∃ a dx fvs, v = .ref a ∧ H a = some (.ins (ca K c) dx fvs) ∧ RepV K A H c fs fvs
  | .dic t kvs, v => ∃ a, v = .ref a ∧ DicAt K A H a t kvs
  | d, v => Rep K A H d v
theorem RepW.of {K : Frag} {A : AS} {H : Hp} {d : D} {v : V} (h : Rep K A H d v) : RepW K A H d v := by
  cases d with
  | lst xs =>
    simp only [Rep] at h
    obtain ⟨a, vs, e, _, q, r⟩ := h
    exact ⟨a, vs, e, q, r⟩
  | ins c fs =>
    simp only [Rep] at h
    obtain ⟨a, dx, fvs, e, _, q, r⟩ := h
    exact ⟨a, dx, fvs, e, q, RepV.of r⟩
  | dic t kvs =>
    obtain ⟨a, e, _, q⟩ := rep_dic.mp h
    exact ⟨a, e, q⟩
  | _ => exact h
theorem RepW.ofU {K : Frag} {A : AS} {H : Hp} {d : D} {v : V} (h : RepU K A H d v) : RepW K A H d v := by
  cases d with
  | lst xs => exact h
  | dic t kvs => exact h
  | ins c fs => exact RepW.of h
  | _ => exact h
theorem RepW.none {K : Frag} {A : AS} {H : Hp} {d : D} {v : V} (h : RepW K A H d v) : Rep K (fun _ => False) H d v := by
  have z : Mv A H (fun _ => False) H := Mv.less fun _ x => x.elim
  cases d with
  | lst xs =>
    obtain ⟨a, vs, e, q, r⟩ := h
    simp only [Rep]
    exact ⟨a, vs, e, fun x => x, q, RepL.move z _ _ r⟩
  | ins c fs =>
    obtain ⟨a, dx, fvs, e, q, r⟩ := h
    simp only [Rep]
    exact ⟨a, dx, fvs, e, fun x => x, q, r.none⟩
  | dic t kvs =>
    obtain ⟨a, e, q⟩ := h
    exact rep_dic.mpr ⟨a, e, fun x => x, q.move z rfl⟩
  | _ => exact Rep.move z _ _ h
/-- a relation between data and values, under what is to be avoided -/
abbrev RR := AS → Hp → D → V → Prop
/-- an expression that computes m -/
def tG (R : RR) (K : Frag) (W : WX) (ow : Ow) (m : EM) : TE := fun σ H Q => ∃ A H0 O e, ER K A H0 ow O σ H e ∧
  Out (m e) (fun d => ∀ v H', Same H H' → R (AO A O) H' d v → Q v H') (badE K W A O σ H)
/-- .. clean -/
abbrev tE (K : Frag) (W : WX) (ow : Ow) (m : EM) : TE := tG (Rep K) K W ow m
/-- .. to be read only -/
abbrev tW (K : Frag) (W : WX) (ow : Ow) (m : EM) : TE := tG (RepW K) K W ow m
/-- .. a new list -/
def tF (K : Frag) (W : WX) (ow : Ow) (m : EM) : TE := fun σ H Q => ∃ A H0 O e, ER K A H0 ow O σ H e ∧
  Out (m e) (fun d => ∀ a H', H a = none → Same H H' → OwnAt K (fun b => AO A O b ∨ b = a) H' a d → Q (.ref a) H') (badE K W A O σ H)
def tT (K : Frag) (W : WX) (ow : Ow) (m : TM) : TT := fun σ H Q => ∃ A H0 O e, ER K A H0 ow O σ H e ∧
  Out (m e) (fun b => ∀ H', Same H H' → Q b H') (badE K W A O σ H)
def tA (R : RR) (K : Frag) (W : WX) (ow : Ow) (m : AM) : TA := fun σ H Q => ∃ A H0 O e, ER K A H0 ow O σ H e ∧
  Out (m e) (fun ds => ∀ vs H', Same H H' → Paired (fun v d => R (AO A O) H' d v) vs ds → Q vs H') (badE K W A O σ H)
section
variable {X : Cx} {K : Frag} {W : WX} {A : AS} {H0 : Base} {ow : Ow}
theorem PE.of {e : Expr} {t t' : TE} (h : PE X e t) (k : ∀ σ H Q, t' σ H Q → t σ H Q) : PE X e t' := ⟨fun pins s σ H Q I q => h.run pins s σ H Q I (k σ H Q q)⟩
theorem PT.of {e : Expr} {t t' : TT} (h : PT X e t) (k : ∀ σ H Q, t' σ H Q → t σ H Q) : PT X e t' := ⟨fun pins s σ H Q I q => h.run pins s σ H Q I (k σ H Q q)⟩
theorem PW.of {e : Expr} {t t' : TT} (h : PW X e t) (k : ∀ σ H Q, t' σ H Q → t σ H Q) : PW X e t' := ⟨fun wh pins s σ H Q I q => h.run wh pins s σ H Q I (k σ H Q q)⟩
theorem PA.of {e : List Expr} {t t' : TA} (h : PA X e t) (k : ∀ σ H Q, t' σ H Q → t σ H Q) : PA X e t' := ⟨fun pos pins s σ H Q I q => h.run pos pins s σ H Q I (k σ H Q q)⟩
theorem PS.of {e : Stmt} {t t' : TS} (h : PS X e t) (k : ∀ D σ H, t' D σ H → t D σ H) : PS X e t' := ⟨fun pins s σ H D I q => h.run pins s σ H D I (k D σ H q)⟩
theorem PSs.of {e : List Stmt} {t t' : TS} (h : PSs X e t) (k : ∀ D σ H, t' D σ H → t D σ H) : PSs X e t' := ⟨fun pins s σ H D I q => h.run pins s σ H D I (k D σ H q)⟩
theorem w_of {e : Expr} {m : EM} (h : PE X e (tE K W ow m)) : PE X e (tW K W ow m) := PE.of h fun σ H Q ⟨A, H0, O, en, R, q⟩ => ⟨A, H0, O, en, R, q.good fun d k v H' s r => k v H' s (RepW.of r)⟩
theorem e_of {e : Expr} {m : EM} (h : PE X e (tF K W ow m)) : PE X e (tE K W ow m) := PE.of h fun σ H Q ⟨A, H0, O, en, R, q⟩ => ⟨A, H0, O, en, R, q.good fun d k a H' n s r => by
  refine k (.ref a) H' s ?_
  have na : ¬ AO A O a := fun z => R.there a z n
  have mv : Mv (fun b => AO A O b ∨ b = a) H' (AO A O) H' := Mv.less fun b x => .inl x
  exact r.rep mv na⟩
/-! names, constants -/
theorem x_var {i : Nat} {e : Expr} (h : PE X e (tVar i)) (hi : ow i = false) : PE X e (tE K W ow (var i)) := PE.of h fun σ H Q ⟨A, H0, O, en, R, q⟩ => by
  unfold var at q
  split at q
  · rename_i d hd
    obtain ⟨v, e1, r⟩ := R.vals i d hd hi
    exact ⟨v, e1, q v H (Same.refl H) r⟩
  · exact q.elim
/-- a name's own list, read -/
theorem x_own {i : Nat} {e : Expr} (h : PE X e (tVar i)) : PE X e (tW K W ow (var i)) := PE.of h fun σ H Q ⟨A, H0, O, en, R, q⟩ => by
  unfold var at q
  split at q
  · rename_i d hd
    cases hi : ow i with
    | false =>
      obtain ⟨v, e1, r⟩ := R.vals i d hd hi
      exact ⟨v, e1, q v H (Same.refl H) (RepW.of r)⟩
    | true =>
      obtain ⟨a, _, e1, r⟩ := R.owns i d hd hi
      refine ⟨.ref a, e1, q _ H (Same.refl H) ?_⟩
      cases d with
      | lst ds =>
        obtain ⟨vs, e2, r⟩ := r
        exact ⟨a, vs, rfl, .inl e2, r⟩
      | ins c fs =>
        obtain ⟨dx, fvs, e2, r⟩ := r
        exact ⟨a, dx, fvs, rfl, e2, RepV.own r⟩
      | dic t kvs => exact ⟨a, rfl, r⟩
      | _ => exact r.elim
  · exact q.elim
/-- data that need no object -/
def flat : D → Option V
  | .non => some .non
  | .bl b => some (.bl b)
  | .int i => some (.int i)
  | .str s => some (.str (Str.ofString s))
  | _ => none
theorem flat_rep {d : D} {v : V} (h : flat d = some v) (A : AS) (H : Hp) : Rep K A H d v := by
  cases d <;> simp only [flat, Option.some.injEq] at h <;> first | exact h.symm | cases h
theorem x_cst {e : Expr} {d : D} {v : V} (h : PE X e (tC v)) (hf : flat d = some v) : PE X e (tE K W ow (cst d)) := PE.of h fun σ H Q ⟨A, H0, O, en, R, q⟩ => q v H (Same.refl H) (flat_rep hf _ _)
theorem x_int {i j pos} : PE X (.Constant (.int i) j pos) (tE K W ow (cst (.int i))) := x_cst pe_int rfl
theorem x_bl {i j pos} : PE X (.Constant (.bool i) j pos) (tE K W ow (cst (.bl i))) := x_cst pe_bl rfl
theorem x_non {j pos} : PE X (.Constant .none j pos) (tE K W ow (cst .non)) := x_cst pe_non rfl
theorem x_str {s : String} {j pos} : PE X (.Constant (.str (Str.ofString s)) j pos) (tE K W ow (cst (.str s))) := x_cst pe_str rfl
end
end Py
/-! Dicts: their keys in the heap, look-ups, stores. -/
namespace Py
variable [WI]
open PySem L2
/-! ### keys -/
mutual
theorem hk_nk : ∀ (n : Nat) (d : D), hk n d = true → ∃ k, nk d = some k ∧ k.depth ≤ n
  | n, .non, _ => ⟨.none, by simp [nk], by simp [NestedKey.depth]⟩
  | n, .bl b, _ => ⟨.num (b2i b), by simp [nk], by simp [NestedKey.depth]⟩
  | n, .int i, _ => ⟨.num i, by simp [nk], by simp [NestedKey.depth]⟩
  | n + 1, .tup xs, h => by
    simp only [hk] at h
    obtain ⟨ks, h1, h2⟩ := hk_nkL n xs h
    exact ⟨.tup ks, by simp [nk, h1], by simp only [NestedKey.depth]; omega⟩
  | 0, .tup xs, h => by simp [hk] at h
  | n, .str s, _ => ⟨.text (Str.ofString s), by simp [nk], by simp [NestedKey.depth]⟩
  | n, .lst _, h => by cases n <;> simp [hk] at h
  | n, .dic _ _, h => by cases n <;> simp [hk] at h
  | n, .ins _ _, h => by cases n <;> simp [hk] at h
  | n, .drw _, h => by cases n <;> simp [hk] at h
theorem hk_nkL : ∀ (n : Nat) (ds : List D), ds.all (hk n) = true → ∃ ks, nkL ds = some ks ∧ NestedKey.depthAll ks ≤ n
  | n, [], _ => ⟨[], by simp [nkL], by simp [NestedKey.depthAll]⟩
  | n, d :: ds, h => by
    simp only [List.all_cons, Bool.and_eq_true] at h
    obtain ⟨k, h1, h2⟩ := hk_nk n d h.1
    obtain ⟨ks, h3, h4⟩ := hk_nkL n ds h.2
    exact ⟨k :: ks, by simp [nkL, h1, h3], by simp only [NestedKey.depthAll]; omega⟩
end
theorem nkL_cons {d : D} {ds : List D} {ks : List NestedKey} (h : nkL (d :: ds) = some ks) : ∃ k r, nk d = some k ∧ nkL ds = some r ∧ ks = k :: r := by
  simp only [nkL] at h
  split at h
  · rename_i k r e1 e2
    exact ⟨k, r, e1, e2, (Option.some.inj h).symm⟩
  · cases h
mutual
theorem nk_eqv : ∀ (d e : D) (k j : NestedKey), nk d = some k → nk e = some j → eqv d e = NestedKey.beq k j
  | .non, e, k, j, h, h' => by
    simp only [nk, Option.some.injEq] at h
    subst h
    cases e <;> simp only [nk, Option.some.injEq, reduceCtorEq, Option.map_eq_some_iff] at h' <;> first | (subst h'; simp [eqv, NestedKey.beq]) | (obtain ⟨_, _, rfl⟩ := h'; simp [eqv, NestedKey.beq])
  | .bl b, e, k, j, h, h' => by
    simp only [nk, Option.some.injEq] at h
    subst h
    cases e <;> simp only [nk, Option.some.injEq, reduceCtorEq, Option.map_eq_some_iff] at h' <;> first | (subst h'; simp [eqv, NestedKey.beq]; try rfl) | (obtain ⟨_, _, rfl⟩ := h'; simp [eqv, NestedKey.beq])
    rename_i c
    cases b <;> cases c <;> simp [b2i]
  | .int i, e, k, j, h, h' => by
    simp only [nk, Option.some.injEq] at h
    subst h
    cases e <;> simp only [nk, Option.some.injEq, reduceCtorEq, Option.map_eq_some_iff] at h' <;> first | (subst h'; simp [eqv, NestedKey.beq]; try rfl) | (obtain ⟨_, _, rfl⟩ := h'; simp [eqv, NestedKey.beq])
  | .tup xs, e, k, j, h, h' => by
    simp only [nk, Option.map_eq_some_iff] at h
    obtain ⟨ks, h1, rfl⟩ := h
    cases e <;> simp only [nk, Option.some.injEq, reduceCtorEq, Option.map_eq_some_iff] at h' <;> first | (subst h'; simp [eqv, NestedKey.beq]; done) | skip
    rename_i ys
    obtain ⟨js, h2, rfl⟩ := h'
    simp only [eqv, NestedKey.beq]
    exact nk_eqvL xs ys ks js h1 h2
  | .str a, e, k, j, h, h' => by
    simp only [nk, Option.some.injEq] at h
    subst h
    cases e <;> simp only [nk, Option.some.injEq, reduceCtorEq, Option.map_eq_some_iff] at h' <;> first | (subst h'; simp [eqv, NestedKey.beq]; done) | (obtain ⟨_, _, rfl⟩ := h'; simp [eqv, NestedKey.beq]; done) | skip
    rename_i b
    subst h'
    simp only [eqv, NestedKey.beq]
    by_cases q : a = b
    · subst q
      simp
    · rw [beq_eq_false_iff_ne.mpr q]
      exact (decide_eq_false fun z => q (ofS_inj z)).symm
  | .lst _, e, k, j, h, _ => by simp [nk] at h
  | .dic _ _, e, k, j, h, _ => by simp [nk] at h
  | .ins _ _, e, k, j, h, _ => by simp [nk] at h
  | .drw _, e, k, j, h, _ => by simp [nk] at h
theorem nk_eqvL : ∀ (ds es : List D) (ks js : List NestedKey), nkL ds = some ks → nkL es = some js → eqv.eqvL ds es = NestedKey.beqAll ks js
  | [], [], ks, js, h, h' => by
    simp only [nkL, Option.some.injEq] at h h'
    subst h h'
    simp [eqv.eqvL, NestedKey.beqAll]
  | [], e :: es, ks, js, h, h' => by
    obtain ⟨k, r, h1, h2, rfl⟩ := nkL_cons h'
    simp only [nkL, Option.some.injEq] at h
    subst h
    simp [eqv.eqvL, NestedKey.beqAll]
  | d :: ds, [], ks, js, h, h' => by
    obtain ⟨k, r, h1, h2, rfl⟩ := nkL_cons h
    simp only [nkL, Option.some.injEq] at h'
    subst h'
    simp [eqv.eqvL, NestedKey.beqAll]
  | d :: ds, e :: es, ks, js, h, h' => by
    obtain ⟨k, r, h1, h2, rfl⟩ := nkL_cons h
    obtain ⟨k', r', h1', h2', rfl⟩ := nkL_cons h'
    simp only [eqv.eqvL, NestedKey.beqAll]
    rw [nk_eqv d e k k' h1 h1', nk_eqvL ds es r r' h2 h2']
end
theorem nk_eq {d e : D} {k j : NestedKey} (h : nk d = some k) (h' : nk e = some j) : eqv d e = decide (k = j) := by
  rw [NestedKey.decide_eq]
  exact nk_eqv d e k j h h'
theorem keyT {k : D} (h : keyOk true k = true) : ∃ c, nk k = some c ∧ c.depth ≤ 8 := by
  cases k <;> simp only [keyOk, reduceCtorEq] at h <;> first | cases h | exact hk_nk 8 _ h
theorem keyK {k : D} (h : keyOk false k = true) : ∃ c, kvK k = some c := by
  cases k <;> first | exact ⟨_, rfl⟩ | simp [keyOk] at h
theorem kv_eq {d e : D} {k j : Key} (h : kvK d = some k) (h' : kvK e = some j) : eqv d e = decide (k = j) := by
  cases d <;> simp only [kvK, Option.some.injEq, reduceCtorEq] at h <;> subst h <;> cases e <;> simp only [kvK, Option.some.injEq, reduceCtorEq] at h' <;> subst h' <;> simp [eqv]
  · rename_i a b
    by_cases q : a = b <;> simp [q]
  · rename_i a b
    by_cases q : a = b
    · simp [q]
    · have q2 : ¬ Str.ofString a = Str.ofString b := fun z => q (ofS_inj z)
      simp [q, q2]
theorem kv_rep {K : Frag} {A : AS} {H : Hp} {d : D} {k : Key} {v : V} (h : kvK d = some k) (r : Rep K A H d v) : v = kV k := by
  cases d <;> simp only [kvK, Option.some.injEq, reduceCtorEq] at h <;> subst h <;> simp only [Rep] at r <;> exact r
/-! ### in the heap -/
section
variable {X : Cx} [CW X] {pins : List (Addr × Obj)} {σ : L2.St} {H : Hp} {s : Shared} {A : AS} {a : Addr}
mutual
theorem nest_of (I : Inv X pins σ H s) : ∀ (d : D) (v : V) (u : Value) (k : NestedKey), nk d = some k → Rep X.K A H d v → RelV v u → NestedIs s.heap k u
  | .non, v, u, k, h, r, e => by
    simp only [nk, Option.some.injEq] at h
    simp only [Rep] at r
    subst h r
    cases (show u = Value.none from e)
    exact .none
  | .bl b, v, u, k, h, r, e => by
    simp only [nk, Option.some.injEq] at h
    simp only [Rep] at r
    subst h r
    cases (show u = Value.bool b from e)
    exact .bool (by cases b <;> rfl)
  | .int i, v, u, k, h, r, e => by
    simp only [nk, Option.some.injEq] at h
    simp only [Rep] at r
    subst h r
    obtain ⟨t, rfl⟩ := (show ∃ t, u = Value.int i t from e)
    exact .int _ _
  | .tup xs, v, u, k, h, r, e => by
    simp only [nk, Option.map_eq_some_iff] at h
    obtain ⟨ks, h1, rfl⟩ := h
    simp only [Rep] at r
    obtain ⟨b, vs, rfl, q, r⟩ := r
    cases (show u = Value.ref b from e)
    obtain ⟨its, rv, ⟨o, g1, g2, n, g3⟩, _⟩ := I.tuple q
    exact .tup g1 g2 g3 (by simpa using nest_ofL I xs vs its ks h1 r rv)
  | .str a, v, u, k, h, r, e => by
    simp only [nk, Option.some.injEq] at h
    simp only [Rep] at r
    subst h r
    obtain ⟨t, rfl⟩ := (show ∃ t, u = Value.str (Str.ofString a) t from e)
    exact .text _ _
  | .lst _, v, u, k, h, _, _ => by simp [nk] at h
  | .dic _ _, v, u, k, h, _, _ => by simp [nk] at h
  | .ins _ _, v, u, k, h, _, _ => by simp [nk] at h
  | .drw _, v, u, k, h, _, _ => by simp [nk] at h
theorem nest_ofL (I : Inv X pins σ H s) : ∀ (ds : List D) (vs : List V) (us : List Value) (ks : List NestedKey), nkL ds = some ks → RepL X.K A H ds vs → Vals vs us → NestedAll s.heap ks us
  | [], vs, us, ks, h, r, e => by
    simp only [nkL, Option.some.injEq] at h
    simp only [RepL] at r
    subst h r
    cases e
    exact .nil
  | d :: ds, vs, us, ks, h, r, e => by
    obtain ⟨k, r', h1, h2, rfl⟩ := nkL_cons h
    simp only [RepL] at r
    obtain ⟨v, rs, rfl, q1, q2⟩ := r
    cases e with
    | cons e1 e2 => exact .cons (nest_of I d v _ k h1 q1 e1) (nest_ofL I ds rs _ r' h2 q2 e2)
end
theorem is_of (I : Inv X pins σ H s) {k : D} {c : NestedKey} {b : Addr} (h : keyOk true k = true) (hc : nk k = some c) (r : Rep X.K A H k (.ref b)) : (nestedKind X.prog X.w).is s.heap c b := by
  obtain ⟨c', h1, h2⟩ := keyT h
  rw [hc] at h1
  cases h1
  exact ⟨nest_of I k _ _ c hc r rfl, h2⟩
/-! ### look-ups -/
abbrev PT3 : List (NestedKey × Addr × V) → List (NestedKey × Addr × Value) → Prop := Paired fun p q => p.1 = q.1 ∧ p.2.1 = q.2.1 ∧ RelV p.2.2 q.2.2
theorem find_T {K : Frag} {k : D} {c : NestedKey} (hc : nk k = some c) : ∀ {kvs : List (D × D)} {es : List (NestedKey × Addr × V)} {xs : List (NestedKey × Addr × Value)}, RepT K A H kvs es → PT3 es xs →
    match find k kvs with | some d => ∃ b u v, atKey xs c = some (b, u) ∧ RelV v u ∧ Rep K A H d v | none => atKey xs c = none
  | [], es, xs, r, p => by
    simp only [RepT] at r
    subst r
    cases p
    rfl
  | (k0, d0) :: kvs, es, xs, r, p => by
    simp only [RepT] at r
    obtain ⟨c0, b, v, q, rfl, ⟨h0, _⟩, h1, h2, h3⟩ := r
    cases p with
    | @cons _ y _ ys hp t =>
      obtain ⟨p1, p2, p3⟩ := hp
      simp only [find, nk_eq h0 hc]
      have p1' : c0 = y.1 := p1
      by_cases e : c0 = c
      · rw [decide_eq_true e]
        refine ⟨y.2.1, y.2.2, v, ?_, p3, h2⟩
        unfold atKey
        rw [List.find?_cons_of_pos (by simpa using p1'.symm.trans e)]
        rfl
      · rw [decide_eq_false e]
        have e2 : atKey (y :: ys) c = atKey ys c := by
          unfold atKey
          rw [List.find?_cons_of_neg (by simpa using fun z => e (p1'.trans z))]
        rw [e2]
        exact find_T hc h3 t
theorem find_K {K : Frag} {k : D} {c : Key} (hc : kvK k = some c) : ∀ {kvs : List (D × D)} {ks : List (Key × V)}, RepK K A H kvs ks →
    match find k kvs with | some d => ∃ v, valV ks c = some v ∧ Rep K A H d v | none => valV ks c = none
  | [], ks, r => by
    simp only [RepK] at r
    subst r
    rfl
  | (k0, d0) :: kvs, ks, r => by
    simp only [RepK] at r
    obtain ⟨c0, v, q, rfl, h0, h2, h3⟩ := r
    simp only [find, kv_eq h0 hc]
    by_cases e : c0 = c
    · rw [decide_eq_true e, valV_pos (p := (c0, v)) e]
      exact ⟨v, rfl, h2⟩
    · rw [decide_eq_false e, valV_neg (p := (c0, v)) e]
      exact find_K hc h3
theorem dic_rd (I : Inv X pins σ H s) {es : E3} {kvs : List (D × D)} (e : H a = some (dicT a es)) (r : RepT X.K A H kvs es.1) : es.1.length ≤ sizeLine ∧ (a == sysModules) = false ∧ ∃ xs, PT3 es.1 xs ∧ s.heap.DictOfH (nestedKind X.prog X.w) a xs ∧
    ∃ o en ep, s.heap.get? a = some o ∧ o.ExactDict ∧ o.data = .dict en ep ∧ en.toList = xs.map (entW X.w) ∧ (xs.map (·.1)).Nodup := by
  obtain ⟨⟨h1, h2, xs, h3, o, g1, g2, g3, g4, g5⟩, _, _⟩ := (show ObjOk X.prog X.w H s.heap a (dicT a es) from I.hok a _ e)
  rw [← CW.eq (X := X)] at g4
  refine ⟨h2, h1, xs, h3, ⟨o, _, _, g1, g2, g3, g4, ?_, g5⟩, o, _, _, g1, g2, g3, g4, g5⟩
  have all : ∀ {kvs : List (D × D)} {es : List (NestedKey × Addr × V)} {xs : List (NestedKey × Addr × Value)}, RepT X.K A H kvs es → PT3 es xs → ∀ x ∈ xs, (nestedKind X.prog X.w).is s.heap x.1 x.2.1 := by
    intro kvs
    induction kvs with
    | nil =>
      intro es xs r p
      simp only [RepT] at r
      subst r
      cases p
      intro x hx
      cases hx
    | cons kd kvs ih =>
      intro es xs r p
      obtain ⟨k0, d0⟩ := kd
      simp only [RepT] at r
      obtain ⟨c0, b, v, q, rfl, ⟨h0, hk0⟩, h1, h2, h3⟩ := r
      cases p with
      | cons hp t =>
        obtain ⟨p1, p2, p3⟩ := hp
        intro x hx
        rcases List.mem_cons.mp hx with z | hx
        · subst z
          have := is_of I hk0 h0 h1
          have p1' : c0 = x.1 := p1
          have p2' : b = x.2.1 := p2
          rw [p1', p2'] at this
          exact this
        · exact ih h3 t x hx
  exact all r h3
theorem dic_type (I : Inv X pins σ H s) {t : Bool} {kvs : List (D × D)} (g : DicAt X.K A H a t kvs) : s.TypeIs (.ref a) "dict" := by
  rcases g with ⟨rfl, ks, e, r⟩ | ⟨rfl, es, e, r⟩
  · obtain ⟨_, _, vs, _, dd⟩ := dk_of I.hok e
    exact dd.typeIs
  · obtain ⟨z, hsm, xs, rel, dd, _⟩ := dic_rd I e r
    exact dd.typeIs
/-- len(d) -/
theorem dic_len {B : Around} {E : Value → Shared → Prop} {t : Bool} {kvs : List (D × D)} {Q : Value → Shared → Prop} (I : Inv X pins σ H s) (g : DicAt X.K A H a t kvs) (hl : ∀ {kvs : List (D × D)} {es : List (NestedKey × Addr × V)}, RepT X.K A H kvs es → es.length = kvs.length) (hl2 : ∀ {kvs : List (D × D)} {es : List (Key × V)}, RepK X.K A H kvs es → es.length = kvs.length)
    (h : ∀ t' s', Inv X pins σ H s' → Q (.int kvs.length t') s') : wpAny (model X.prog X.w) B (PySem.call (.builtin "len") [.ref a]) Q E s := by
  rcases g with ⟨rfl, ks, e, r⟩ | ⟨rfl, es, e, r⟩
  · refine d_len I (.inl e) fun t' s' I' => ?_
    rw [hl2 r]
    exact h t' s' I'
  · obtain ⟨z, hsm, xs, rel, dd, _⟩ := dic_rd I e r
    have hm : s.heap.DictKeyed (nestedKind X.prog X.w) a (pairsH xs) := ⟨xs, dd, rfl⟩
    have h1 : (pairsH xs).length = kvs.length := by rw [pairsH_length, ← Paired.length rel, hl r]
    refine PyProof.Rows.call_len_slot (n := (pairsH xs).length) hm.typeIs F.slot_dict_len (fun Q' hq => len_keyed hsm hm hq) (by omega) ?_ ?_
    · have hz := sizeLine_eq
      have := Paired.length rel
      rw [pairsH_length]
      omega
    · rw [h1]
      exact h _ _ ((I.tok _).tok _)
/-- d[k], there -/
theorem dic_get {B : Around} {E : Value → Shared → Prop} {t : Bool} {kvs : List (D × D)} {k d : D} {y : V} {u : Value} {Q : Value → Shared → Prop} (hu : B.units + 16 < cLine) (I : Inv X pins σ H s) (g : DicAt X.K A H a t kvs) (hk : keyOk t k = true) (rk : Rep X.K A H k y) (ry : RelV y u)
    (hf : find k kvs = some d) (h : ∀ v w' s', Inv X pins σ H s' → RelV v w' → Rep X.K A H d v → Q w' s') : wpAny (model X.prog X.w) B (getItem (.ref a) u) Q E s := by
  rcases g with ⟨rfl, ks, e, r⟩ | ⟨rfl, es, e, r⟩
  · obtain ⟨c, hc⟩ := keyK hk
    have q := find_K hc r
    rw [hf] at q
    obtain ⟨v, hv, rv⟩ := q
    have hy := kv_rep hc rk
    subst hy
    refine d_getItem (by omega) I (hv ▸ DGet.k e) ry fun w' s' I' r' => h v w' s' I' r' rv
  · obtain ⟨c, hc, hd⟩ := keyT hk
    obtain ⟨z, hsm, xs, rel, dd, _⟩ := dic_rd I e r
    have q := find_T hc r rel
    rw [hf] at q
    obtain ⟨b, u', v, hat, rv, rd⟩ := q
    have hk' := hk
    cases k with
    | tup xs' =>
      simp only [Rep] at rk
      obtain ⟨b', vs, rfl, q1, q2⟩ := rk
      cases (show u = Value.ref b' from ry)
      refine wpAny_getItem_heap (by show B.units + 1 + 8 < cLine; omega) (is_of (A := A) I hk' hc (by simp only [Rep]; exact ⟨b', vs, rfl, q1, q2⟩)) dd hat ?_
      exact h v u' _ (I.tok _) rv rd
    | _ => simp [keyOk] at hk
theorem dic_in {B : Around} {E : Value → Shared → Prop} {t : Bool} {kvs : List (D × D)} {k : D} {y : V} {u : Value} {Q : Value → Shared → Prop} (hu : B.units + 16 < cLine) (I : Inv X pins σ H s) (g : DicAt X.K A H a t kvs) (hk : keyOk t k = true) (rk : Rep X.K A H k y) (ry : RelV y u)
    (h : ∀ s', Inv X pins σ H s' → Q (.bool (find k kvs).isSome) s') : wpAny (model X.prog X.w) B (compareOp .In u (.ref a)) Q E s := by
  rcases g with ⟨rfl, ks, e, r⟩ | ⟨rfl, es, e, r⟩
  · obtain ⟨c, hc⟩ := keyK hk
    have q := find_K hc r
    have hy := kv_rep hc rk
    subst hy
    refine d_in (by omega) I (DGet.k e) ry fun s' I' => ?_
    have z : (valV ks c).isSome = (find k kvs).isSome := by
      cases hf : find k kvs with
      | none => rw [hf] at q; rw [show valV ks c = none from q]; rfl
      | some d => rw [hf] at q; obtain ⟨v, hv, _⟩ := q; rw [hv]; rfl
    rw [z]
    exact h s' I'
  · obtain ⟨c, hc, hd⟩ := keyT hk
    obtain ⟨z, hsm, xs, rel, dd, _⟩ := dic_rd I e r
    have q := find_T hc r rel
    have hk' := hk
    cases k with
    | tup xs' =>
      simp only [Rep] at rk
      obtain ⟨b', vs, rfl, q1, q2⟩ := rk
      cases (show u = Value.ref b' from ry)
      refine wpAny_in_heap (by show B.units + 1 + 8 < cLine; omega) (is_of (A := A) I hk' hc (by simp only [Rep]; exact ⟨b', vs, rfl, q1, q2⟩)) hsm dd ?_
      have z : (atKey xs c).isSome = (find (.tup xs') kvs).isSome := by
        cases hf : find (.tup xs') kvs with
        | none => rw [hf] at q; rw [show atKey xs c = none from q]; rfl
        | some d => rw [hf] at q; obtain ⟨b, u', v, hv, _⟩ := q; rw [hv]; rfl
      rw [z]
      exact h _ (I.tok _)
    | _ => simp [keyOk] at hk
theorem dic_notIn {B : Around} {E : Value → Shared → Prop} {t : Bool} {kvs : List (D × D)} {k : D} {y : V} {u : Value} {Q : Value → Shared → Prop} (hu : B.units + 16 < cLine) (I : Inv X pins σ H s) (g : DicAt X.K A H a t kvs) (hk : keyOk t k = true) (rk : Rep X.K A H k y) (ry : RelV y u)
    (h : ∀ s', Inv X pins σ H s' → Q (.bool (!(find k kvs).isSome)) s') : wpAny (model X.prog X.w) B (compareOp .NotIn u (.ref a)) Q E s := by
  rcases g with ⟨rfl, ks, e, r⟩ | ⟨rfl, es, e, r⟩
  · obtain ⟨c, hc⟩ := keyK hk
    have q := find_K hc r
    have hy := kv_rep hc rk
    subst hy
    refine d_notIn (by omega) I (DGet.k e) ry fun s' I' => ?_
    have z : (valV ks c).isSome = (find k kvs).isSome := by
      cases hf : find k kvs with
      | none => rw [hf] at q; rw [show valV ks c = none from q]; rfl
      | some d => rw [hf] at q; obtain ⟨v, hv, _⟩ := q; rw [hv]; rfl
    rw [z]
    exact h s' I'
  · obtain ⟨c, hc, hd⟩ := keyT hk
    obtain ⟨z, hsm, xs, rel, dd, _⟩ := dic_rd I e r
    have q := find_T hc r rel
    have hk' := hk
    cases k with
    | tup xs' =>
      simp only [Rep] at rk
      obtain ⟨b', vs, rfl, q1, q2⟩ := rk
      cases (show u = Value.ref b' from ry)
      refine PyProof.Rows.wpAny_notIn_heap (by show B.units + 1 + 8 < cLine; omega) (is_of (A := A) I hk' hc (by simp only [Rep]; exact ⟨b', vs, rfl, q1, q2⟩)) hsm dd ?_
      have z : (atKey xs c).isSome = (find (.tup xs') kvs).isSome := by
        cases hf : find (.tup xs') kvs with
        | none => rw [hf] at q; rw [show atKey xs c = none from q]; rfl
        | some d => rw [hf] at q; obtain ⟨b, u', v, hv, _⟩ := q; rw [hv]; rfl
      rw [z]
      exact h _ (I.tok _)
    | _ => simp [keyOk] at hk
/-! ### stores -/
def putE (es : List (NestedKey × Addr × V)) (c : NestedKey) (b : Addr) (v : V) : List (NestedKey × Addr × V) :=
  if es.any (fun x => decide (x.1 = c)) then es.map (fun x => if x.1 = c then (x.1, x.2.1, v) else x) else es ++ [(c, b, v)]
theorem map_no {α β : Type} [DecidableEq α] (c : α) (f : α × β → α × β) : ∀ (es : List (α × β)), ¬ c ∈ es.map (·.1) → es.map (fun x => if x.1 = c then f x else x) = es
  | [], _ => rfl
  | x :: es, h => by
    simp only [List.map_cons, List.mem_cons, not_or] at h
    simp only [List.map_cons]
    rw [if_neg fun z => h.1 z.symm, map_no c f es h.2]
theorem put_T {K : Frag} {k d : D} {c : NestedKey} {b : Addr} {v : V} (hc : nk k = some c) (hk : keyOk true k = true) (rk : Rep K A H k (.ref b)) (rd : Rep K A H d v) : ∀ {kvs : List (D × D)} {es : List (NestedKey × Addr × V)}, RepT K A H kvs es → (es.map (·.1)).Nodup →
    RepT K A H (putD k d kvs) (putE es c b v)
  | [], es, r, _ => by
    simp only [RepT] at r
    subst r
    show RepT K A H [(k, d)] [(c, b, v)]
    simp only [RepT]
    exact ⟨c, b, v, [], rfl, ⟨hc, hk⟩, rk, rd, rfl⟩
  | (k0, d0) :: kvs, es, r, nd => by
    simp only [RepT] at r
    obtain ⟨c0, b0, v0, q, rfl, ⟨h0, hk0⟩, h1, h2, h3⟩ := r
    simp only [List.map_cons, List.nodup_cons] at nd
    simp only [putD, nk_eq h0 hc]
    by_cases e : c0 = c
    · rw [decide_eq_true e, if_pos rfl]
      have e1 : putE ((c0, b0, v0) :: q) c b v = (c0, b0, v) :: q := by
        unfold putE
        rw [if_pos (by simp [e])]
        simp only [List.map_cons]
        rw [if_pos e, map_no c (fun x => (x.1, x.2.1, v)) q (by rw [← e]; exact nd.1)]
      rw [e1]
      simp only [RepT]
      exact ⟨c0, b0, v, q, rfl, ⟨h0, hk0⟩, h1, rd, h3⟩
    · rw [decide_eq_false e, if_neg (by decide)]
      have e1 : putE ((c0, b0, v0) :: q) c b v = (c0, b0, v0) :: putE q c b v := by
        unfold putE
        simp only [List.any_cons, decide_eq_false e, Bool.false_or]
        split
        · simp only [List.map_cons]
          rw [if_neg e]
        · rfl
      rw [e1]
      simp only [RepT]
      exact ⟨c0, b0, v0, _, rfl, ⟨h0, hk0⟩, h1, h2, put_T hc hk rk rd h3 nd.2⟩
theorem put_K {K : Frag} {k d : D} {c : Key} {v : V} (hc : kvK k = some c) (rd : Rep K A H d v) : ∀ {kvs : List (D × D)} {ks : List (Key × V)}, RepK K A H kvs ks → (ks.map (·.1)).Nodup → RepK K A H (putD k d kvs) (putK ks c v)
  | [], ks, r, _ => by
    simp only [RepK] at r
    subst r
    show RepK K A H [(k, d)] [(c, v)]
    simp only [RepK]
    exact ⟨c, v, [], rfl, hc, rd, rfl⟩
  | (k0, d0) :: kvs, ks, r, nd => by
    simp only [RepK] at r
    obtain ⟨c0, v0, q, rfl, h0, h2, h3⟩ := r
    simp only [List.map_cons, List.nodup_cons] at nd
    simp only [putD, kv_eq h0 hc]
    by_cases e : c0 = c
    · rw [decide_eq_true e, if_pos rfl]
      have e1 : putK ((c0, v0) :: q) c v = (c0, v) :: q := by
        unfold putK
        rw [if_pos (by simp [e])]
        simp only [List.map_cons]
        rw [if_pos e, map_no c (fun x => (x.1, v)) q (by rw [← e]; exact nd.1)]
      rw [e1]
      simp only [RepK]
      exact ⟨c0, v, q, rfl, h0, rd, h3⟩
    · rw [decide_eq_false e, if_neg (by decide)]
      have e1 : putK ((c0, v0) :: q) c v = (c0, v0) :: putK q c v := by
        unfold putK
        simp only [List.any_cons, decide_eq_false e, Bool.false_or]
        split
        · simp only [List.map_cons]
          rw [if_neg e]
        · rfl
      rw [e1]
      simp only [RepK]
      exact ⟨c0, v0, _, rfl, h0, h2, put_K hc rd h3 nd.2⟩
theorem pt_keys : ∀ {es : List (NestedKey × Addr × V)} {xs : List (NestedKey × Addr × Value)}, PT3 es xs → es.map (·.1) = xs.map (·.1)
  | _, _, .nil => rfl
  | _, _, .cons h t => by
    simp only [List.map_cons]
    rw [h.1, pt_keys t]
theorem pt_any {es : List (NestedKey × Addr × V)} {xs : List (NestedKey × Addr × Value)} (p : PT3 es xs) (c : NestedKey) : (es.any fun x => decide (x.1 = c)) = (atKey xs c).isSome := by
  induction p with
  | nil => rfl
  | @cons x y es xs h t ih =>
    simp only [List.any_cons]
    have h1 : x.1 = y.1 := h.1
    by_cases e : y.1 = c
    · have e2 : atKey (y :: xs) c = some y.2 := by
        unfold atKey
        rw [List.find?_cons_of_pos (by simpa using e)]
        rfl
      rw [e2, h1, decide_eq_true e]
      rfl
    · have e2 : atKey (y :: xs) c = atKey xs c := by
        unfold atKey
        rw [List.find?_cons_of_neg (by simpa using e)]
      rw [e2, h1, decide_eq_false e, Bool.false_or, ih]
theorem pt_put {es : List (NestedKey × Addr × V)} {xs : List (NestedKey × Addr × Value)} (p : PT3 es xs) (c : NestedKey) (b : Addr) {v : V} {u : Value} (r : RelV v u) : PT3 (putE es c b v) (storedH xs c b u) := by
  unfold putE storedH
  rw [pt_any p]
  split
  · rename_i h
    clear h
    induction p with
    | nil => exact .nil
    | @cons x y es xs h t ih =>
      simp only [List.map_cons]
      refine .cons ?_ ih
      unfold putAt
      have h1 : x.1 = y.1 := h.1
      by_cases e : y.1 = c
      · rw [if_pos (h1.trans e), if_pos e]
        exact ⟨h1, h.2.1, r⟩
      · rw [if_neg fun z => e (h1.symm.trans z), if_neg e]
        exact h
  · exact Paired.snoc p ⟨rfl, rfl, r⟩
theorem putE_len (es : List (NestedKey × Addr × V)) (c : NestedKey) (b : Addr) (v : V) : (putE es c b v).length ≤ es.length + 1 := by
  unfold putE
  split <;> simp
theorem RepT.len {K : Frag} : ∀ {kvs : List (D × D)} {es : List (NestedKey × Addr × V)}, RepT K A H kvs es → es.length = kvs.length
  | [], es, r => by
    simp only [RepT] at r
    subst r
    rfl
  | (k, d) :: kvs, es, r => by
    simp only [RepT] at r
    obtain ⟨c0, b0, v0, q, rfl, _, _, _, h3⟩ := r
    simp [RepT.len h3]
theorem RepK.len {K : Frag} : ∀ {kvs : List (D × D)} {es : List (Key × V)}, RepK K A H kvs es → es.length = kvs.length
  | [], es, r => by
    simp only [RepK] at r
    subst r
    rfl
  | (k, d) :: kvs, es, r => by
    simp only [RepK] at r
    obtain ⟨c0, v0, q, rfl, _, _, h3⟩ := r
    simp [RepK.len h3]
/-- d[k] = v -/
def rSetN (K : Frag) : TSet := fun o i v H Q => ∃ A t kvs k d a, o = .ref a ∧ A a ∧ DicAt K A H a t kvs ∧ Rep K A H k i ∧ Rep K A H d v ∧ keyOk t k = true ∧ kvs.length < SZ ∧ ∀ ob, DicAt K A (upd H a ob) a t (putD k d kvs) → Q (upd H a ob)
theorem set_dic (hu : X.A.units + 16 < cLine) : PSet X (rSetN X.K) := by
  intro pins s σ H o i v ov iv u Q I ro ri rv ⟨A, t, kvs, k, d, a, eo, hA, g, rk, rd, hk, hl, q⟩
  subst eo
  cases (show ov = Value.ref a from ro)
  rcases g with ⟨rfl, ks, e, r⟩ | ⟨rfl, es, e, r⟩
  · obtain ⟨c, hc⟩ := keyK hk
    have hy := kv_rep hc rk
    subst hy
    have hlen := r.len
    have nd : (ks.map (·.1)).Nodup := by
      obtain ⟨_, _, vs, rel, _, _, _, _, _, _, _, _, nd⟩ := dk_of I.hok e
      rw [rel.keys]
      exact nd
    refine d_setItem (by omega) I (DPut.k e (by rw [hlen]; exact hl)) ri rv fun s' I' => ⟨_, I', q _ ?_⟩
    have mv : Mv A H A (upd H a (.dK (putK ks c v))) := ⟨fun b hb => .inl hb, fun b ob e3 hb => by
      rw [upd_ne]
      · exact e3
      · intro z
        subst z
        rcases hb with hb | hb
        · exact hb hA
        · rw [e] at e3
          cases e3
          exact hb⟩
    exact .inl ⟨rfl, _, upd_same, RepK.move mv _ _ (put_K hc rd r nd)⟩
  · obtain ⟨c, hc, hd⟩ := keyT hk
    obtain ⟨z, hsm, xs, rel, dd, o0, en, ep, g1, g2, g3, g4, g5⟩ := dic_rd I e r
    have hk' := hk
    have nd : (es.1.map (·.1)).Nodup := by
      rw [pt_keys rel]
      exact g5
    cases k with
    | tup xs' =>
      have rk0 := rk
      simp only [Rep] at rk
      obtain ⟨b', vs, rfl, q1, q2⟩ := rk
      cases (show iv = Value.ref b' from ri)
      have hlen := r.len
      have hsz : SZ = sizeLine := rfl
      have hz : xs.length ≤ sizeLine := by rw [← Paired.length rel]; exact z
      have rp := put_T hc hk rk0 rd r nd
      have pp := pt_put rel c b' rv
      refine wpAny_setItem_heap (hsz := hz) (by show X.A.units + 1 + 8 < cLine; omega) (is_of (A := A) I hk hc rk0) dd fun h' dd' hs => ?_
      obtain ⟨q0, en', ep', hq, h2, h3, h4, _, h5⟩ := dd'
      have mv : Mv A H A (upd H a (dicT a (putE es.1 c b' v, en', ep'))) := ⟨fun b hb => .inl hb, fun b ob e3 hb => by
        rw [upd_ne]
        · exact e3
        · intro z
          subst z
          rcases hb with hb | hb
          · exact hb hA
          · rw [e] at e3
            cases e3
            exact hb⟩
      refine ⟨upd H a (dicT a (putE es.1 c b' v, en', ep')), ?_, q _ (.inr ⟨rfl, _, upd_same, RepT.move mv _ _ rp⟩)⟩
      refine d_write I (by rw [e]; exact True.intro) hs ⟨q0, hq⟩ ⟨⟨hsm, ?_, _, pp, q0, hq, h2, h3, ?_, h5⟩, ⟨q0, hq⟩, ?_⟩
      · have := putE_len es.1 c b' v
        show (putE es.1 c b' v).length ≤ sizeLine
        omega
      · have h4' : en'.toList = (storedH xs c b' u).map (entW X.w) := h4
        rw [h4', CW.eq (X := X)]
      · rintro h1 h2 ⟨y1, y2, xs', y3, o', z1, z2⟩ hk2
        exact ⟨y1, y2, xs', y3, o', hk2 _ z1, z2⟩
    | _ => simp [keyOk] at hk
/-- of a list or a dict -/
def rSetX (K : Frag) : TSet := fun o i v H Q => rSetL o i v H Q ∨ rSetN K o i v H Q
theorem set_any (hu : X.A.units + 16 < cLine) : PSet X (rSetX X.K) := fun pins s σ H o i v ov iv u Q I ro ri rv h => by
  rcases h with h | h
  · exact set_list pins s σ H o i v ov iv u Q I ro ri rv h
  · exact set_dic hu pins s σ H o i v ov iv u Q I ro ri rv h
end
end Py
/-! Operators. -/
namespace Py
variable [WI]
open PySem L2
/-! ### data of the library -/
mutual
def toPy : D → PyData
  | .non => .none
  | .bl b => .bool b
  | .int i => .int i
  | .str s => .str (Str.ofString s)
  | .tup xs => .tuple (toPyL xs)
  | .lst xs => .list (toPyL xs)
  | .dic _ _ => .none
  | .ins _ _ => .none
  | .drw _ => .none
def toPyL : List D → List PyData
  | [] => []
  | d :: r => toPy d :: toPyL r
end
theorem str_len (s : String) : (Str.ofString s).length = s.length := by
  rw [Str.ofString_eq_toList]
  simp [Str.length, String.length_toList]
theorem str_ok (s : String) : PySem.PyData.strOk (Str.ofString s) = true := by
  rw [Str.ofString_eq_toList]
  simp only [PySem.PyData.strOk, List.size_toArray, List.all_toArray', List.all_map]
  refine List.all_eq_true.mpr fun c _ => ?_
  simp only [Function.comp, decide_eq_true_eq]
  rcases c.valid with h | h
  · have h2 : c.toNat < 55296 := h
    omega
  · have h2 : c.toNat < 1114112 := h.2
    omega
mutual
theorem dp_of {K : Frag} {H : Hp} : ∀ (n : Nat) (d : D) (v : V), pl n d = true → Rep K (fun _ => False) H d v → Dp K H v (toPy d) ∧ (toPy d).canLay0 = true ∧ (toPy d).depth ≤ n
  | n, .non, v, _, h => by
    simp only [Rep] at h
    subst h
    exact ⟨.non, by simp [toPy, PyData.canLay0], by simp [toPy, PyData.depth]⟩
  | n, .bl b, v, _, h => by
    simp only [Rep] at h
    subst h
    exact ⟨.bl b, by simp [toPy, PyData.canLay0], by simp [toPy, PyData.depth]⟩
  | n, .int b, v, _, h => by
    simp only [Rep] at h
    subst h
    exact ⟨.int b, by simp [toPy, PyData.canLay0], by simp [toPy, PyData.depth]⟩
  | n, .str b, v, _, h => by
    simp only [Rep] at h
    subst h
    exact ⟨.str _, by simp [toPy, PyData.canLay0, str_ok], by simp [toPy, PyData.depth]⟩
  | n + 1, .tup xs, v, p, h => by
    simp only [Rep] at h
    obtain ⟨a, vs, rfl, q, r⟩ := h
    simp only [pl] at p
    obtain ⟨h1, h2, h3⟩ := dp_ofL n xs vs p r
    refine ⟨?_, by simpa [toPy, PyData.canLay0] using h2, by simp only [toPy, PyData.depth]; omega⟩
    simp only [toPy]
    exact .tup q h1
  | n + 1, .lst xs, v, p, h => by
    simp only [Rep] at h
    obtain ⟨a, vs, rfl, _, q, r⟩ := h
    simp only [pl] at p
    obtain ⟨h1, h2, h3⟩ := dp_ofL n xs vs p r
    refine ⟨?_, by simpa [toPy, PyData.canLay0] using h2, by simp only [toPy, PyData.depth]; omega⟩
    simp only [toPy]
    exact .lst (.inl q) h1
  | 0, .tup xs, v, p, h => by simp [pl] at p
  | 0, .lst xs, v, p, h => by simp [pl] at p
  | n, .dic _ _, v, p, h => by cases n <;> simp [pl] at p
  | n, .ins _ _, v, p, h => by cases n <;> simp [pl] at p
  | n, .drw _, v, p, h => by cases n <;> simp [pl] at p
theorem dp_ofL {K : Frag} {H : Hp} : ∀ (n : Nat) (ds : List D) (vs : List V), ds.all (pl n) = true → RepL K (fun _ => False) H ds vs → DpAll K H vs (toPyL ds) ∧ PyData.canLayAll0 (toPyL ds) = true ∧ PyData.depthAll (toPyL ds) ≤ n
  | n, [], vs, _, h => by
    simp only [RepL] at h
    subst h
    exact ⟨.nil, by simp [toPyL, PyData.canLayAll0], by simp [toPyL, PyData.depthAll]⟩
  | n, d :: ds, vs, p, h => by
    simp only [RepL] at h
    obtain ⟨v, r, rfl, h1, h2⟩ := h
    simp only [List.all_cons, Bool.and_eq_true] at p
    obtain ⟨a1, a2, a3⟩ := dp_of n d v p.1 h1
    obtain ⟨b1, b2, b3⟩ := dp_ofL n ds r p.2 h2
    refine ⟨.cons a1 b1, by simp [toPyL, PyData.canLayAll0, a2, b2], by simp only [toPyL, PyData.depthAll]; omega⟩
end
mutual
theorem eqv_py : ∀ (d e : D) (n m : Nat), pl n d = true → pl m e = true → PyData.eqv (toPy d) (toPy e) = eqv d e
  | .non, e, n, m, _, q => by cases e <;> first | (cases m <;> simp [pl] at q; done) | simp [toPy, PyData.eqv, eqv]
  | .bl b, e, n, m, _, _ => by cases e <;> simp [toPy, PyData.eqv, eqv, b2i]
  | .int b, e, n, m, _, _ => by cases e <;> simp [toPy, PyData.eqv, eqv, b2i]
  | .str b, e, n, m, _, _ => by
    cases e with
    | str c =>
      simp only [toPy, PyData.eqv, eqv]
      by_cases q : b = c
      · subst q
        simp
      · rw [beq_eq_false_iff_ne.mpr q]
        exact beq_eq_false_iff_ne.mpr fun z => q (ofS_inj z)
    | _ => simp [toPy, PyData.eqv, eqv]
  | .tup xs, e, n, m, p, q => by
    cases e with
    | tup ys =>
      cases n with
      | zero => simp [pl] at p
      | succ n =>
        cases m with
        | zero => simp [pl] at q
        | succ m =>
          simp only [toPy, PyData.eqv, eqv]
          exact eqv_pyL xs ys n m (by simpa only [pl] using p) (by simpa only [pl] using q)
    | _ => simp [toPy, PyData.eqv, eqv]
  | .lst xs, e, n, m, p, q => by
    cases e with
    | lst ys =>
      cases n with
      | zero => simp [pl] at p
      | succ n =>
        cases m with
        | zero => simp [pl] at q
        | succ m =>
          simp only [toPy, PyData.eqv, eqv]
          exact eqv_pyL xs ys n m (by simpa only [pl] using p) (by simpa only [pl] using q)
    | _ => simp [toPy, PyData.eqv, eqv]
  | .dic _ _, e, n, m, p, _ => by cases n <;> simp [pl] at p
  | .ins _ _, e, n, m, p, _ => by cases n <;> simp [pl] at p
  | .drw _, e, n, m, p, _ => by cases n <;> simp [pl] at p
theorem eqv_pyL : ∀ (ds es : List D) (n m : Nat), ds.all (pl n) = true → es.all (pl m) = true → PyData.eqvAll (toPyL ds) (toPyL es) = eqv.eqvL ds es
  | [], [], _, _, _, _ => by simp [toPyL, PyData.eqvAll, eqv.eqvL]
  | [], _ :: _, _, _, _, _ => by simp [toPyL, PyData.eqvAll, eqv.eqvL]
  | _ :: _, [], _, _, _, _ => by simp [toPyL, PyData.eqvAll, eqv.eqvL]
  | d :: ds, e :: es, n, m, p, q => by
    simp only [List.all_cons, Bool.and_eq_true] at p q
    simp only [toPyL, PyData.eqvAll, eqv.eqvL]
    rw [eqv_py d e n m p.1 q.1, eqv_pyL ds es n m p.2 q.2]
end
/-! ### two operands, one operand -/
def r2 (K : Frag) (f : D → D → Res D) : R2 := fun x y H Q => ∃ A d1 d2 d, RepW K A H d1 x ∧ RepW K A H d2 y ∧ (∀ a, A a → H a ≠ none) ∧ f d1 d2 = .ok d ∧ ∀ v H', Same H H' → Rep K A H' d v → Q v H'
def r1 (K : Frag) (f : D → Res D) : V → Hp → VK → Prop := fun x H Q => ∃ A d1 d, RepW K A H d1 x ∧ (∀ a, A a → H a ≠ none) ∧ f d1 = .ok d ∧ ∀ v H', Same H H' → Rep K A H' d v → Q v H'
/-- no error, nothing drawn -/
def Res.isP {α : Type} : Res α → Bool
  | .ok _ => true | .stuck => true | _ => false
def NoEx2 (f : D → D → Res D) : Prop := ∀ x y (_ _ : Unit), (f x y).isP = true
def NoEx1 (f : D → Res D) : Prop := ∀ x (_ _ : Unit), (f x).isP = true
theorem NoEx2.exc {f : D → D → Res D} (h : NoEx2 f) {x y : D} {c : String} {fs : List (String × D)} (e : f x y = .exc c fs) : False := by
  have := h x y () ()
  rw [e] at this
  cases this
theorem NoEx2.pick {f : D → D → Res D} (h : NoEx2 f) {x y : D} {n : Nat} {k : Nat → Res D} (e : f x y = .pick n k) : False := by
  have := h x y () ()
  rw [e] at this
  cases this
theorem NoEx1.exc {f : D → Res D} (h : NoEx1 f) {x : D} {c : String} {fs : List (String × D)} (e : f x = .exc c fs) : False := by
  have := h x () ()
  rw [e] at this
  cases this
theorem NoEx1.pick {f : D → Res D} (h : NoEx1 f) {x : D} {n : Nat} {k : Nat → Res D} (e : f x = .pick n k) : False := by
  have := h x () ()
  rw [e] at this
  cases this
theorem leaf_bind {α β : Type} {r : Res α} {f : α → Res β} {b : β} (h : Res.leaf b (r >>= f)) : ∃ a, Res.leaf a r ∧ Res.leaf b (f a) := by
  induction r with
  | ok a => exact ⟨a, rfl, h⟩
  | exc c fs => exact h.elim
  | stuck => exact h.elim
  | pick n k ih =>
    rw [bind_pick] at h
    obtain ⟨i, hi, q⟩ := h
    obtain ⟨a, h1, h2⟩ := ih i q
    exact ⟨a, ⟨i, hi, h1⟩, h2⟩
theorem leaf_isP {α : Type} {r : Res α} {d : α} (h : r.isP = true) (l : Res.leaf d r) : r = .ok d := by
  cases r with
  | ok a => exact congrArg Res.ok l
  | exc c fs => exact l.elim
  | stuck => exact l.elim
  | pick n k => cases h
theorem r2_of {K : Frag} {A : AS} {W : WX} {O : OW} {σ : L2.St} {H0 : Base} {f : D → D → Res D} (hf : NoEx2 f) {x y : V} {H : Hp} {Q : VK} {d1 d2 : D} (h1 : RepW K A H d1 x) (h2 : RepW K A H d2 y) (ha : ∀ a, A a → H a ≠ none)
    {bad : String → List (String × D) → Prop} (h : Out (f d1 d2) (fun d => ∀ v H', Same H H' → Rep K A H' d v → Q v H') bad) : r2 K f x y H Q := by
  cases e : f d1 d2 with
  | ok d =>
    rw [e] at h
    exact ⟨A, d1, d2, d, h1, h2, ha, e, h⟩
  | exc c fs => exact (hf.exc e).elim
  | pick _ _ => exact (hf.pick e).elim
  | stuck =>
    rw [e] at h
    exact h.elim
theorem RepU.move {K : Frag} {A : AS} {H H' : Hp} (s : Same H H') {d : D} {v : V} (h : RepU K A H d v) : RepU K A H' d v := by
  cases d with
  | lst xs =>
    obtain ⟨a, vs, e, q, r⟩ := h
    refine ⟨a, vs, e, ?_, RepL.move (Mv.same s) _ _ r⟩
    rcases q with q | ⟨o, q⟩
    · exact .inl (s _ _ q)
    · exact .inr ⟨o, s _ _ q⟩
  | dic t kvs =>
    obtain ⟨a, e, q⟩ := h
    refine ⟨a, e, ?_⟩
    rcases q with ⟨ht, ks, q, r⟩ | ⟨ht, es, q, r⟩
    · exact .inl ⟨ht, ks, s _ _ q, RepK.move (Mv.same s) _ _ r⟩
    · exact .inr ⟨ht, es, s _ _ q, RepT.move (Mv.same s) _ _ r⟩
  | _ => exact Rep.move (Mv.same s) _ _ h
theorem RepV.move {K : Frag} {A : AS} {H H' : Hp} {c : String} (s : Same H H') : ∀ {fs : List (String × D)} {vs : List (Str × V)}, RepV K A H c fs vs → RepV K A H' c fs vs
  | [], vs, h => h
  | (n, d) :: fs, vs, h => by
    obtain ⟨v, q, e, h1, h2⟩ := h
    refine ⟨v, q, e, ?_, RepV.move s h2⟩
    cases hi : inn c n with
    | true =>
      rw [hi] at h1
      exact RepU.move s h1
    | false =>
      rw [hi] at h1
      exact Rep.move (Mv.same s) _ _ h1
theorem RepW.move {K : Frag} {A : AS} {H H' : Hp} (s : Same H H') {d : D} {v : V} (h : RepW K A H d v) : RepW K A H' d v := by
  cases d with
  | lst xs =>
    obtain ⟨a, vs, e, q, r⟩ := h
    refine ⟨a, vs, e, ?_, RepL.move (Mv.same s) _ _ r⟩
    rcases q with q | ⟨o, q⟩
    · exact .inl (s _ _ q)
    · exact .inr ⟨o, s _ _ q⟩
  | ins c fs =>
    obtain ⟨a, dx, fvs, e, q, r⟩ := h
    exact ⟨a, dx, fvs, e, s _ _ q, RepV.move s r⟩
  | dic t kvs =>
    obtain ⟨a, e, q⟩ := h
    refine ⟨a, e, ?_⟩
    rcases q with ⟨ht, ks, q, r⟩ | ⟨ht, es, q, r⟩
    · exact .inl ⟨ht, ks, s _ _ q, RepK.move (Mv.same s) _ _ r⟩
    · exact .inr ⟨ht, es, s _ _ q, RepT.move (Mv.same s) _ _ r⟩
  | _ => exact Rep.move (Mv.same s) _ _ h
section
variable {X : Cx} [CW X] {W : WX} {A : AS} {H0 : Base} {ow : Ow} {a b : Expr} {ma mb : EM} {pos : Pos}
theorem two_of {f : D → D → Res D} (hf : NoEx2 f) {σ : L2.St} {H : Hp} {Q : VK} (h : tE X.K W ow (bin f ma mb) σ H Q) : tOp (r2 X.K f) (tW X.K W ow ma) (tW X.K W ow mb) σ H Q := by
  obtain ⟨A, H0, O, en, R, q⟩ := h
  refine ⟨A, H0, O, en, R, (Out.bind q).good fun d1 q1 v1 H1 s1 r1 => ?_⟩
  refine ⟨A, H0, O, en, R.to s1, ((Out.bind q1).to s1).good fun d2 q2 v2 H2 s2 r2 => ?_⟩
  have R2 := (R.to s1).to s2
  exact r2_of (W := W) (O := O) (σ := σ) (H0 := H0) hf (r1.move s2) r2 R2.there (q2.good fun d k v H' s' r => k v H' ((s1.trans s2).trans s') r)
theorem one_of {f : D → Res D} (hf : NoEx1 f) {σ : L2.St} {H : Hp} {Q : VK} (h : tE X.K W ow (un f ma) σ H Q) : tUn (r1 X.K f) (tW X.K W ow ma) σ H Q := by
  obtain ⟨A, H0, O, en, R, q⟩ := h
  refine ⟨A, H0, O, en, R, (Out.bind q).good fun d1 q1 v1 H1 s1 r1 => ?_⟩
  have R2 := R.to s1
  cases e : f d1 with
  | ok d =>
    rw [e] at q1
    exact ⟨_, d1, d, r1, R2.there, e, fun v H' s' r => q1 v H' (s1.trans s') r⟩
  | exc c fs => exact (hf.exc e).elim
  | pick _ _ => exact (hf.pick e).elim
  | stuck =>
    rw [e] at q1
    exact q1.elim
theorem x_bin {op : Operator} {f : D → D → Res D} (ho : OpR X (binaryOp op) (r2 X.K f)) (hf : NoEx2 f) (ha : PE X a (tW X.K W ow ma)) (hb : PE X b (tW X.K W ow mb)) : PE X (.BinOp a op b pos) (tE X.K W ow (bin f ma mb)) :=
  PE.of (pe_op ho ha hb) fun _ _ _ h => two_of hf h
theorem x_un {op : UnaryOp} {f : D → Res D} (ho : UnR X (unaryOp op) (r1 X.K f)) (hf : NoEx1 f) (ha : PE X a (tW X.K W ow ma)) : PE X (.UnaryOp op a pos) (tE X.K W ow (un f ma)) :=
  PE.of (pe_un ho ha) fun _ _ _ h => one_of hf h
theorem x_cmp {op : CmpOp} {f : D → D → Res D} (ho : OpR X (compareOp op) (r2 X.K f)) (hf : NoEx2 f) (ha : PE X a (tW X.K W ow ma)) (hb : PE X b (tW X.K W ow mb)) (hm : behindInMarks op b = false) : PE X (.Compare a [op] [b] pos) (tE X.K W ow (bin f ma mb)) :=
  PE.of (pe_cmpR ho ha hb hm) fun _ _ _ h => two_of hf h
/-! ### ints -/
theorem rep_int {K : Frag} {A : AS} {H : Hp} {i : Int} {v : V} (h : RepW K A H (.int i) v) : v = .int i := h
theorem imp2 {g : Value → Value → Sem Value} {r r' : R2} (h : OpR X g r) (k : ∀ x y H Q, r' x y H Q → r x y H Q) : OpR X g r' := fun pins s σ H x y v u Q I rx ry q => h pins s σ H x y v u Q I rx ry (k x y H Q q)
theorem imp1 {g : Value → Sem Value} {r r' : V → Hp → VK → Prop} (h : UnR X g r) (k : ∀ x H Q, r' x H Q → r x H Q) : UnR X g r' := fun pins s σ H x v Q I rx q => h pins s σ H x v Q I rx (k x H Q q)
theorem int_op {g : Value → Value → Sem Value} {f : D → D → Res D} {C : Int → Int → Prop} {z : Int → Int → V} {zd : Int → Int → D} (h : OpR X g (rI C z))
    (hz : ∀ i j, flat (zd i j) = some (z i j)) (hf : ∀ d1 d2 d, f d1 d2 = .ok d → ∃ i j, d1 = .int i ∧ d2 = .int j ∧ C i j ∧ d = zd i j) : OpR X g (r2 X.K f) := imp2 h fun x y H Q ⟨A, d1, d2, d, h1, h2, _, e, k⟩ => by
  obtain ⟨i, j, rfl, rfl, c, rfl⟩ := hf d1 d2 d e
  exact ⟨i, j, rep_int h1, rep_int h2, c, k _ H (Same.refl H) (flat_rep (hz i j) _ _)⟩
theorem rI_of {g : Value → Value → Sem Value} {z : Int → Int → V} (h : OpR X g (rI0 z)) : OpR X g (rI (fun _ _ => True) z) := imp2 h fun x y H Q ⟨i, j, e1, e2, _, q⟩ => ⟨i, j, e1, e2, q⟩
theorem y_sub : OpR X (binaryOp .Sub) (r2 X.K osub) := int_op (rI_of op_sub) (zd := fun i j => .int (i - j)) (fun _ _ => rfl) fun d1 d2 d e => by
  cases d1 <;> cases d2 <;> simp only [osub, Res.ok.injEq, reduceCtorEq] at e
  exact ⟨_, _, rfl, rfl, trivial, e.symm⟩
theorem y_mul : OpR X (binaryOp .Mult) (r2 X.K omul) := int_op op_mul (zd := fun i j => .int (i * j)) (fun _ _ => rfl) fun d1 d2 d e => by
  cases d1 <;> cases d2 <;> simp only [omul, reduceCtorEq] at e
  split at e
  · rename_i c
    refine ⟨_, _, rfl, rfl, ?_, ?_⟩
    · simp only [B64] at c
      unfold CMul
      have e64 : (2 : Int) ^ 64 = 18446744073709551616 := by decide
      rw [e64]
      omega
    · simp only [Res.ok.injEq] at e
      exact e.symm
  · cases e
theorem y_fdiv : OpR X (binaryOp .FloorDiv) (r2 X.K ofdiv) := int_op op_fdiv (zd := fun i j => .int (i / j)) (fun _ _ => rfl) fun d1 d2 d e => by
  cases d1 <;> cases d2 <;> simp only [ofdiv, reduceCtorEq] at e
  split at e
  · rename_i c
    simp only [Res.ok.injEq] at e
    exact ⟨_, _, rfl, rfl, c, e.symm⟩
  · cases e
theorem y_mod : OpR X (binaryOp .Mod) (r2 X.K omod) := int_op op_mod (zd := fun i j => .int (i % j)) (fun _ _ => rfl) fun d1 d2 d e => by
  cases d1 <;> cases d2 <;> simp only [omod, reduceCtorEq] at e
  split at e
  · rename_i c
    simp only [Res.ok.injEq] at e
    exact ⟨_, _, rfl, rfl, c, e.symm⟩
  · cases e
theorem y_pow : OpR X (binaryOp .Pow) (r2 X.K opow) := int_op op_pow (zd := fun i j => .int (i ^ j.toNat)) (fun _ _ => rfl) fun d1 d2 d e => by
  cases d1 <;> cases d2 <;> simp only [opow, reduceCtorEq] at e
  split at e
  · rename_i c
    simp only [Res.ok.injEq] at e
    refine ⟨_, _, rfl, rfl, ?_, e.symm⟩
    have e64 : (2 : Nat) ^ 64 = 18446744073709551616 := by decide
    unfold CPow
    rw [e64]
    exact c
  · cases e
theorem y_shl : OpR X (binaryOp .LShift) (r2 X.K oshl) := int_op op_shlW (zd := fun i j => .int (i * 2 ^ j.toNat)) (fun _ _ => rfl) fun d1 d2 d e => by
  cases d1 <;> cases d2 <;> simp only [oshl, reduceCtorEq] at e
  split at e
  · rename_i c
    simp only [Res.ok.injEq] at e
    refine ⟨_, _, rfl, rfl, ?_, e.symm⟩
    have e64 : (2 : Int) ^ 27 = 134217728 := by decide
    unfold CShl
    rw [e64]
    exact c
  · cases e
theorem y_shr : OpR X (binaryOp .RShift) (r2 X.K oshr) := int_op op_shr (zd := fun i j => .int (i / 2 ^ j.toNat)) (fun _ _ => rfl) fun d1 d2 d e => by
  cases d1 <;> cases d2 <;> simp only [oshr, reduceCtorEq] at e
  split at e
  · rename_i c
    simp only [Res.ok.injEq] at e
    exact ⟨_, _, rfl, rfl, c, e.symm⟩
  · cases e
theorem y_and : OpR X (binaryOp .BitAnd) (r2 X.K oand) := int_op (rI_of op_and) (zd := fun i j => .int (Builtin.bitAnd i j)) (fun _ _ => rfl) fun d1 d2 d e => by
  cases d1 <;> cases d2 <;> simp only [oand, Res.ok.injEq, reduceCtorEq] at e
  exact ⟨_, _, rfl, rfl, trivial, e.symm⟩
theorem y_or : OpR X (binaryOp .BitOr) (r2 X.K oor) := int_op (rI_of op_or) (zd := fun i j => .int (Builtin.bitOr i j)) (fun _ _ => rfl) fun d1 d2 d e => by
  cases d1 <;> cases d2 <;> simp only [oor, Res.ok.injEq, reduceCtorEq] at e
  exact ⟨_, _, rfl, rfl, trivial, e.symm⟩
theorem y_xor : OpR X (binaryOp .BitXor) (r2 X.K oxor) := int_op (rI_of op_xor) (zd := fun i j => .int (Builtin.bitXor i j)) (fun _ _ => rfl) fun d1 d2 d e => by
  cases d1 <;> cases d2 <;> simp only [oxor, Res.ok.injEq, reduceCtorEq] at e
  exact ⟨_, _, rfl, rfl, trivial, e.symm⟩
theorem y_lt : OpR X (compareOp .Lt) (r2 X.K olt) := int_op (rI_of op_lt) (zd := fun i j => .bl (decide (i < j))) (fun _ _ => rfl) fun d1 d2 d e => by
  cases d1 <;> cases d2 <;> simp only [olt, Res.ok.injEq, reduceCtorEq] at e
  exact ⟨_, _, rfl, rfl, trivial, e.symm⟩
theorem y_le : OpR X (compareOp .LtE) (r2 X.K ole) := int_op (rI_of op_le) (zd := fun i j => .bl (decide (i ≤ j))) (fun _ _ => rfl) fun d1 d2 d e => by
  cases d1 <;> cases d2 <;> simp only [ole, Res.ok.injEq, reduceCtorEq] at e
  exact ⟨_, _, rfl, rfl, trivial, e.symm⟩
theorem y_gt : OpR X (compareOp .Gt) (r2 X.K ogt) := int_op (rI_of op_gt) (zd := fun i j => .bl (decide (j < i))) (fun _ _ => rfl) fun d1 d2 d e => by
  cases d1 <;> cases d2 <;> simp only [ogt, Res.ok.injEq, reduceCtorEq] at e
  exact ⟨_, _, rfl, rfl, trivial, e.symm⟩
theorem y_ge : OpR X (compareOp .GtE) (r2 X.K oge) := int_op (rI_of op_ge) (zd := fun i j => .bl (decide (j ≤ i))) (fun _ _ => rfl) fun d1 d2 d e => by
  cases d1 <;> cases d2 <;> simp only [oge, Res.ok.injEq, reduceCtorEq] at e
  exact ⟨_, _, rfl, rfl, trivial, e.symm⟩
theorem y_neg : UnR X (unaryOp .USub) (r1 X.K oneg) := imp1 un_neg fun x H Q ⟨A, d1, d, h1, _, e, k⟩ => by
  cases d1 <;> simp only [oneg, Res.ok.injEq, reduceCtorEq] at e
  subst e
  exact ⟨_, rep_int h1, k _ H (Same.refl H) (flat_rep rfl _ _)⟩
/-! ### == and in -/
theorem y_eq (hu : X.A.units + 64 < cLine) : OpR X (compareOp .Eq) (r2 X.K oeq) := imp2 (op_eqD hu) fun x y H Q ⟨A, d1, d2, d, h1, h2, _, e, k⟩ => by
  unfold oeq at e
  split at e
  · rename_i c
    rw [Bool.and_eq_true] at c
    simp only [Res.ok.injEq] at e
    subst e
    obtain ⟨a1, a2, a3⟩ := dp_of 64 d1 x c.1 h1.none
    obtain ⟨b1, b2, b3⟩ := dp_of 64 d2 y c.2 h2.none
    refine ⟨_, _, a1, b1, ?_, ?_, ?_⟩
    · unfold SeqAt.shaped
      rw [a2, decide_eq_true a3]
      rfl
    · unfold SeqAt.shaped
      rw [b2, decide_eq_true b3]
      rfl
    · rw [eqv_py d1 d2 64 64 c.1 c.2]
      exact k _ H (Same.refl H) (flat_rep rfl _ _)
  · cases e
theorem y_ne (hu : X.A.units + 64 < cLine) : OpR X (compareOp .NotEq) (r2 X.K one) := imp2 (op_neD hu) fun x y H Q ⟨A, d1, d2, d, h1, h2, _, e, k⟩ => by
  unfold one at e
  split at e
  · rename_i c
    rw [Bool.and_eq_true] at c
    simp only [Res.ok.injEq] at e
    subst e
    obtain ⟨a1, a2, a3⟩ := dp_of 64 d1 x c.1 h1.none
    obtain ⟨b1, b2, b3⟩ := dp_of 64 d2 y c.2 h2.none
    refine ⟨_, _, a1, b1, ?_, ?_, ?_⟩
    · unfold SeqAt.shaped
      rw [a2, decide_eq_true a3]
      rfl
    · unfold SeqAt.shaped
      rw [b2, decide_eq_true b3]
      rfl
    · rw [eqv_py d1 d2 64 64 c.1 c.2]
      exact k _ H (Same.refl H) (flat_rep rfl _ _)
  · cases e
theorem flat_v {K : Frag} {A : AS} {H : Hp} {d : D} {v : V} (f : flatD d = true) (h : Rep K A H d v) : flatV v = true ∧ ∀ {e : D} {w : V}, flatD e = true → Rep K A H e w → eqV v w = eqv d e := by
  cases d <;> simp only [flatD, reduceCtorEq] at f <;> simp only [Rep] at h <;> subst h <;> refine ⟨rfl, ?_⟩ <;> intro e w fe he <;> cases e <;> simp only [flatD, reduceCtorEq] at fe <;> simp only [Rep] at he <;> subst he <;> simp only [eqV, eqv, b2i]
  rename_i b c
  by_cases q : b = c
  · subst q
    simp
  · rw [beq_eq_false_iff_ne.mpr q]
    exact beq_eq_false_iff_ne.mpr fun z => q (ofS_inj z)
theorem flat_all {K : Frag} {A : AS} {H : Hp} {x : D} {w : V} (fx : flatD x = true) (hx : Rep K A H x w) : ∀ {ds : List D} {vs : List V}, ds.all flatD = true → RepL K A H ds vs → vs.all flatV = true ∧ inV w vs = mem x ds
  | [], vs, _, h => by
    simp only [RepL] at h
    subst h
    exact ⟨rfl, rfl⟩
  | d :: ds, vs, f, h => by
    simp only [RepL] at h
    obtain ⟨v, r, rfl, h1, h2⟩ := h
    simp only [List.all_cons, Bool.and_eq_true] at f
    obtain ⟨a1, a2⟩ := flat_v f.1 h1
    obtain ⟨b1, b2⟩ := flat_all fx hx f.2 h2
    refine ⟨by simp only [List.all_cons, a1, b1, Bool.and_self], ?_⟩
    unfold inV at b2 ⊢
    simp only [List.any_cons, mem, a2 fx hx, b2]
theorem flatW {K : Frag} {A : AS} {H : Hp} {d : D} {v : V} (f : flatD d = true) (h : RepW K A H d v) : Rep K A H d v := by
  cases d <;> simp only [flatD, reduceCtorEq] at f <;> exact h
theorem in_of {K : Frag} {neg : Bool} {f : D → D → Res D} (hf : ∀ x y d, f x y = .ok d → ∃ ys, (y = .lst ys ∨ y = .tup ys) ∧ flatD x = true ∧ ys.all flatD = true ∧ d = .bl (if neg then !mem x ys else mem x ys)) :
    ∀ x y H Q, r2 K f x y H Q → rIn K neg x y H Q := fun x y H Q ⟨A, d1, d2, d, h1, h2, _, e, k⟩ => by
  obtain ⟨ys, hy, fx, fy, rfl⟩ := hf d1 d2 d e
  have g1 := flatW fx h1
  obtain ⟨a, vs, rfl, hq, r⟩ : ∃ a vs, y = .ref a ∧ (SqL K H a vs ∨ SqT K H a vs) ∧ RepL K A H ys vs := by
    rcases hy with rfl | rfl
    · obtain ⟨a, vs, e, q, r⟩ := h2
      exact ⟨a, vs, e, .inl (.inl q), r⟩
    · obtain ⟨a, vs, e, q, r⟩ := (by simpa only [RepW, Rep] using h2 : ∃ a vs, y = .ref a ∧ SqT K H a vs ∧ RepL K A H ys vs)
      exact ⟨a, vs, e, .inr q, r⟩
  obtain ⟨b1, b2⟩ := flat_all fx g1 fy r
  refine ⟨a, vs, rfl, hq, (flat_v fx g1).1, b1, ?_⟩
  rw [b2]
  exact k _ H (Same.refl H) (flat_rep rfl _ _)
def isDic : D → Bool
  | .dic _ _ => true
  | _ => false
theorem y_in (hu : X.A.units + 16 < cLine) : OpR X (compareOp .In) (r2 X.K oin) := by
  have base : OpR X (compareOp .In) (fun x y H Q => ∃ A d1 d2 d, isDic d2 = false ∧ RepW X.K A H d1 x ∧ RepW X.K A H d2 y ∧ (∀ a, A a → H a ≠ none) ∧ oin d1 d2 = .ok d ∧ ∀ v H', Same H H' → Rep X.K A H' d v → Q v H') :=
    imp2 op_in_seq fun x y H Q ⟨A, d1, d2, d, hd, h1, h2, h3, e, k⟩ => by
      have q : r2 X.K (fun a b => if isDic b then Res.stuck else oin a b) x y H Q := ⟨A, d1, d2, d, h1, h2, h3, by show (if isDic d2 = true then Res.stuck else oin d1 d2) = _; rw [hd]; exact e, k⟩
      refine in_of (f := fun a b => if isDic b then Res.stuck else oin a b) (neg := false) (fun x y d e => ?_) x y H Q q
      cases y with
      | tup xs =>
        have e : oin x (.tup xs) = .ok d := e
        simp only [oin] at e
        split at e
        · rename_i c
          rw [Bool.and_eq_true] at c
          simp only [Res.ok.injEq] at e
          exact ⟨xs, .inr rfl, c.1, c.2, e.symm⟩
        · cases e
      | lst xs =>
        have e : oin x (.lst xs) = .ok d := e
        simp only [oin] at e
        split at e
        · rename_i c
          rw [Bool.and_eq_true] at c
          simp only [Res.ok.injEq] at e
          exact ⟨xs, .inl rfl, c.1, c.2, e.symm⟩
        · cases e
      | _ => simp [oin, isDic] at e
  intro pins s σ H x y v u Q I rx ry ⟨A, d1, d2, d, h1, h2, h3, e, k⟩
  cases hd : isDic d2 with
  | false => exact base pins s σ H x y v u Q I rx ry ⟨A, d1, d2, d, hd, h1, h2, h3, e, k⟩
  | true =>
    cases d2 <;> simp only [isDic, reduceCtorEq] at hd
    rename_i t kvs
    simp only [oin] at e
    split at e
    · rename_i hk
      simp only [Res.ok.injEq] at e
      subst e
      obtain ⟨a, rfl, g⟩ := h2
      cases (show u = Value.ref a from ry)
      have h1' : Rep X.K A H d1 x := by
        cases d1 <;> first | exact h1 | (cases t <;> simp [keyOk] at hk)
      exact dic_in hu I g hk h1' rx fun s' I' => ⟨.bl (find d1 kvs).isSome, H, I', rfl, k _ H (Same.refl H) rfl⟩
    · cases e
theorem y_notin (hu : X.A.units + 16 < cLine) : OpR X (compareOp .NotIn) (r2 X.K onotin) := by
  have base : OpR X (compareOp .NotIn) (fun x y H Q => ∃ A d1 d2 d, isDic d2 = false ∧ RepW X.K A H d1 x ∧ RepW X.K A H d2 y ∧ (∀ a, A a → H a ≠ none) ∧ onotin d1 d2 = .ok d ∧ ∀ v H', Same H H' → Rep X.K A H' d v → Q v H') :=
    imp2 op_notIn_seq fun x y H Q ⟨A, d1, d2, d, hd, h1, h2, h3, e, k⟩ => by
      have q : r2 X.K (fun a b => if isDic b then Res.stuck else onotin a b) x y H Q := ⟨A, d1, d2, d, h1, h2, h3, by show (if isDic d2 = true then Res.stuck else onotin d1 d2) = _; rw [hd]; exact e, k⟩
      refine in_of (f := fun a b => if isDic b then Res.stuck else onotin a b) (neg := true) (fun x y d e => ?_) x y H Q q
      cases y with
      | tup xs =>
        have e : onotin x (.tup xs) = .ok d := e
        simp only [onotin] at e
        split at e
        · rename_i c
          rw [Bool.and_eq_true] at c
          simp only [Res.ok.injEq] at e
          exact ⟨xs, .inr rfl, c.1, c.2, e.symm⟩
        · cases e
      | lst xs =>
        have e : onotin x (.lst xs) = .ok d := e
        simp only [onotin] at e
        split at e
        · rename_i c
          rw [Bool.and_eq_true] at c
          simp only [Res.ok.injEq] at e
          exact ⟨xs, .inl rfl, c.1, c.2, e.symm⟩
        · cases e
      | _ => simp [onotin, isDic] at e
  intro pins s σ H x y v u Q I rx ry ⟨A, d1, d2, d, h1, h2, h3, e, k⟩
  cases hd : isDic d2 with
  | false => exact base pins s σ H x y v u Q I rx ry ⟨A, d1, d2, d, hd, h1, h2, h3, e, k⟩
  | true =>
    cases d2 <;> simp only [isDic, reduceCtorEq] at hd
    rename_i t kvs
    simp only [onotin] at e
    split at e
    · rename_i hk
      simp only [Res.ok.injEq] at e
      subst e
      obtain ⟨a, rfl, g⟩ := h2
      cases (show u = Value.ref a from ry)
      have h1' : Rep X.K A H d1 x := by
        cases d1 <;> first | exact h1 | (cases t <;> simp [keyOk] at hk)
      exact dic_notIn hu I g hk h1' rx fun s' I' => ⟨.bl (!(find d1 kvs).isSome), H, I', rfl, k _ H (Same.refl H) rfl⟩
    · cases e
/-! ### + -/
theorem RepL.empty {K : Frag} {A : AS} {H : Hp} {ds : List D} {vs : List V} (h : RepL K A H ds vs) : ds = [] ↔ vs = [] := by
  have := h.length
  constructor
  · intro e
    subst e
    exact List.eq_nil_of_length_eq_zero this.symm
  · intro e
    subst e
    exact List.eq_nil_of_length_eq_zero this
/-- a new object is clean -/
theorem new_same {H : Hp} {p : Addr} {o : HO} (h : H p = none) : Same H (upd H p o) := fun b u e => by
  rw [upd_ne (ne_of_none e h)]
  exact e
theorem new_tup {K : Frag} {A : AS} {H : Hp} {ds : List D} {vs : List V} (r : RepL K A H ds vs) {p : Addr} (h : H p = none) : Rep K A (upd H p (.tup vs)) (.tup ds) (.ref p) := by
  simp only [Rep]
  exact ⟨p, vs, rfl, .inl (.inl upd_same), RepL.move (Mv.same (new_same h)) _ _ r⟩
theorem new_lst {K : Frag} {A : AS} {H : Hp} (ha : ∀ a, A a → H a ≠ none) {ds : List D} {vs : List V} (r : RepL K A H ds vs) {p : Addr} (h : H p = none) : Rep K A (upd H p (.lst vs)) (.lst ds) (.ref p) := by
  simp only [Rep]
  exact ⟨p, vs, rfl, fun z => ha p z h, .inl upd_same, RepL.move (Mv.same (new_same h)) _ _ r⟩
theorem str_app (a b : String) : Str.ofString a ++ Str.ofString b = Str.ofString (a ++ b) := by
  simp only [Str.ofString_eq_toList]
  show Str.append _ _ = _
  simp [Str.append]
theorem lst_at {pins : List (Addr × Obj)} {σ : L2.St} {H : Hp} {s : Shared} (I : Inv X pins σ H s) {a : Addr} {vs : List V} (h : Rd H a (.lst vs)) :
    vs.length ≤ sizeLine ∧ ∃ (its : List Value) (n : Nat), Vals vs its ∧ s.heap.get? a = some { cls := .type "list", data := .seq its.toArray n } := h.ok I.hok
theorem y_add : OpR X (binaryOp .Add) (r2 X.K oadd) := by
  intro pins s σ H x y v u Q I rx ry ⟨A, d1, d2, d, h1, h2, ha, e, k⟩
  cases d1 with
  | int i =>
    cases d2 <;> simp only [oadd, Res.ok.injEq, reduceCtorEq] at e
    subst e
    exact op_add pins s σ H x y v u Q I rx ry ⟨_, _, rep_int h1, rep_int h2, k _ H (Same.refl H) (flat_rep rfl _ _)⟩
  | str i =>
    cases d2 <;> simp only [oadd, Res.ok.injEq, reduceCtorEq] at e
    split at e
    · rename_i j c
      simp only [Res.ok.injEq] at e
      subst e
      refine op_add_str pins s σ H x y v u Q I rx ry ⟨_, _, h1, h2, by rw [str_len, str_len]; exact c, ?_⟩
      rw [str_app]
      exact k _ H (Same.refl H) (flat_rep rfl _ _)
    · cases e
  | tup xs =>
    cases d2 <;> simp only [oadd, Res.ok.injEq, reduceCtorEq] at e
    rename_i ys
    split at e
    · rename_i c
      simp only [Res.ok.injEq] at e
      subst e
      obtain ⟨a, vs, rfl, q1, p1⟩ := (by simpa only [RepW, Rep] using h1 : ∃ a vs, x = .ref a ∧ SqT X.K H a vs ∧ RepL X.K A H xs vs)
      obtain ⟨b, ws, rfl, q2, p2⟩ := (by simpa only [RepW, Rep] using h2 : ∃ a vs, y = .ref a ∧ SqT X.K H a vs ∧ RepL X.K A H ys vs)
      refine op_catA pins s σ H _ _ v u Q I rx ry ⟨a, b, vs, ws, rfl, rfl, q1, q2, by rw [← p1.length, ← p2.length]; exact c, fun z => ?_, fun _ z => ?_, fun _ _ p hp => ?_⟩
      · have z1 := p1.empty.mpr z
        subst z1
        exact k _ H (Same.refl H) h2
      · have z1 := p2.empty.mpr z
        subst z1
        rw [List.append_nil] at k
        exact k _ H (Same.refl H) h1
      · exact k _ _ (new_same hp) (new_tup (p1.append p2) hp)
    · cases e
  | lst xs =>
    cases d2 <;> simp only [oadd, Res.ok.injEq, reduceCtorEq] at e
    rename_i ys
    split at e
    · rename_i c
      simp only [Res.ok.injEq] at e
      subst e
      obtain ⟨a, vs, rfl, q1, p1⟩ := h1
      obtain ⟨b, ws, rfl, q2, p2⟩ := h2
      cases rx
      cases ry
      obtain ⟨z1, its, n, rr1, e1⟩ := lst_at I q1
      obtain ⟨z2, its2, n2, rr2, e2⟩ := lst_at I q2
      have hl1 := rr1.length
      have hl2 := rr2.length
      have hl3 := p1.length
      have hl4 := p2.length
      have hsz : SZ = sizeLine := rfl
      refine PySem.P.add_list e1 e2 ?_ (by rw [List.size_toArray, List.size_toArray]; omega)
      have ea : its.toArray ++ its2.toArray = (its ++ its2).toArray := by simp
      rw [ea]
      exact ⟨.ref _, _, I.lnew (t' := s.toks) (rr1.append rr2) (by rw [List.length_append]; omega), rfl, k _ _ (new_same I.fresh) (new_lst ha (p1.append p2) I.fresh)⟩
    · cases e
  | _ => simp [oadd] at e
end
theorem n_add : NoEx2 oadd := fun x y c fs => by
  cases x <;> cases y <;> simp only [oadd] <;> first | (split <;> rfl) | rfl
theorem n_sub : NoEx2 osub := fun x y c fs => by cases x <;> cases y <;> rfl
theorem n_mul : NoEx2 omul := fun x y c fs => by
  cases x <;> cases y <;> simp only [omul] <;> first | (split <;> rfl) | rfl
theorem n_fdiv : NoEx2 ofdiv := fun x y c fs => by
  cases x <;> cases y <;> simp only [ofdiv] <;> first | (split <;> rfl) | rfl
theorem n_mod : NoEx2 omod := fun x y c fs => by
  cases x <;> cases y <;> simp only [omod] <;> first | (split <;> rfl) | rfl
theorem n_pow : NoEx2 opow := fun x y c fs => by
  cases x <;> cases y <;> simp only [opow] <;> first | (split <;> rfl) | rfl
theorem n_shl : NoEx2 oshl := fun x y c fs => by
  cases x <;> cases y <;> simp only [oshl] <;> first | (split <;> rfl) | rfl
theorem n_shr : NoEx2 oshr := fun x y c fs => by
  cases x <;> cases y <;> simp only [oshr] <;> first | (split <;> rfl) | rfl
theorem n_and : NoEx2 oand := fun x y c fs => by cases x <;> cases y <;> rfl
theorem n_or : NoEx2 oor := fun x y c fs => by cases x <;> cases y <;> rfl
theorem n_xor : NoEx2 oxor := fun x y c fs => by cases x <;> cases y <;> rfl
theorem n_lt : NoEx2 olt := fun x y c fs => by cases x <;> cases y <;> rfl
theorem n_le : NoEx2 ole := fun x y c fs => by cases x <;> cases y <;> rfl
theorem n_gt : NoEx2 ogt := fun x y c fs => by cases x <;> cases y <;> rfl
theorem n_ge : NoEx2 oge := fun x y c fs => by cases x <;> cases y <;> rfl
theorem n_neg : NoEx1 oneg := fun x c fs => by cases x <;> rfl
theorem n_eq : NoEx2 oeq := fun x y c fs => by
  unfold oeq
  split <;> rfl
theorem n_ne : NoEx2 one := fun x y c fs => by
  unfold one
  split <;> rfl
theorem n_in : NoEx2 oin := fun x y c fs => by
  cases y <;> simp only [oin] <;> first | (split <;> rfl) | rfl
theorem n_notin : NoEx2 onotin := fun x y c fs => by
  cases y <;> simp only [onotin] <;> first | (split <;> rfl) | rfl
end Py
/-! Tests, displays, subscripts, attributes, calls of built-ins. -/
namespace Py
variable [WI]
open PySem L2
section
variable {X : Cx} [CW X] {W : WX} {A : AS} {H0 : Base} {ow : Ow} {a b c : Expr} {ma mb mc : EM} {pos : Pos}
/-! ### truths -/
theorem bl_of {K : Frag} {A : AS} {H : Hp} {k : Bool} {v : V} (h : Rep K A H (.bl k) v) : v = .bl k := h
theorem rep_bl {K : Frag} {A : AS} {H : Hp} {k : Bool} : Rep K A H (.bl k) (.bl k) := rfl
theorem x_and {rest : List Expr} (ha : PE X a (tE X.K W ow ma)) (hb : PE X (.BoolOp .And (b :: rest) pos) (tE X.K W ow mb)) : PE X (.BoolOp .And (a :: b :: rest) pos) (tE X.K W ow (andE ma mb)) :=
  PE.of (pe_and ha hb) fun σ H Q ⟨A, H0, O, en, R, q⟩ => ⟨A, H0, O, en, R, (Out.bind q).good fun d q1 v H1 s1 r1 => by
    cases d with
    | bl k =>
      cases k with
      | true =>
        refine ⟨true, bl_of r1, ?_⟩
        rw [if_pos rfl]
        exact ⟨A, H0, O, en, R.to s1, (q1.to s1).good fun d2 q2 v2 H2 s2 r2 => q2 v2 H2 (s1.trans s2) r2⟩
      | false =>
        refine ⟨false, bl_of r1, ?_⟩
        rw [if_neg (by decide)]
        exact q1 _ _ s1 rep_bl
    | _ => exact q1.elim⟩
theorem x_one {op} (h : PE X a (tE X.K W ow ma)) : PE X (.BoolOp op [a] pos) (tE X.K W ow ma) := pe_one h
/-- not x, of a truth -/
theorem x_not (ha : PE X a (tE X.K W ow ma)) : PE X (.UnaryOp .Not a pos) (tE X.K W ow (un onb ma)) :=
  PE.of (pe_not ha) fun σ H Q ⟨A, H0, O, en, R, q⟩ => ⟨A, H0, O, en, R, (Out.bind q).good fun d q1 v H1 s1 r1 => by
    cases d with
    | bl k => exact ⟨k, bl_of r1, q1 _ _ s1 rep_bl⟩
    | _ => exact q1.elim⟩
theorem chain_of {f g : D → D → Res D} (hf : NoEx2 f) (hg : NoEx2 g) {σ : L2.St} {H : Hp} {Q : VK} (h : tE X.K W ow (chain f g ma mb mc) σ H Q) : tChain (r2 X.K f) (r2 X.K g) (tW X.K W ow ma) (tW X.K W ow mb) (tW X.K W ow mc) σ H Q := by
  obtain ⟨A, H0, O, en, R, q⟩ := h
  refine ⟨A, H0, O, en, R, (Out.bind q).good fun d1 q1 v1 H1 s1 r1 => ⟨A, H0, O, en, R.to s1, ((Out.bind q1).to s1).good fun d2 q2 v2 H2 s2 r2 => ?_⟩⟩
  have R2 := (R.to s1).to s2
  have q3 := Out.bind q2
  cases e : f d1 d2 with
  | exc cc fs => exact (hf.exc e).elim
  | pick _ _ => exact (hf.pick e).elim
  | stuck =>
    rw [e] at q3
    exact q3.elim
  | ok d =>
    rw [e] at q3
    refine ⟨_, d1, d2, d, r1.move s2, r2, R2.there, e, fun v3 H3 s3 r3 => ?_⟩
    have q4 : Out _ _ _ := q3
    cases d with
    | bl k =>
      cases k with
      | false =>
        refine ⟨false, bl_of r3, ?_⟩
        rw [if_neg (by decide)]
        exact q4 _ _ ((s1.trans s2).trans s3) rep_bl
      | true =>
        refine ⟨true, bl_of r3, ?_⟩
        rw [if_pos rfl]
        refine ⟨A, H0, O, en, R2.to s3, ((Out.bind q4).to ((s1.trans s2).trans s3)).good fun d4 q5 v4 H4 s4 r4 => ?_⟩
        exact r2_of (W := W) (O := O) (σ := σ) (H0 := H0) hg (r2.move (s3.trans s4)) r4 ((R2.to s3).to s4).there (q5.good fun d k v H' s' r => k v H' ((((s1.trans s2).trans s3).trans s4).trans s') r)
    | _ => exact q4.elim
theorem x_chain {op op' : CmpOp} {f g : D → D → Res D} (ho : OpR X (compareOp op) (r2 X.K f)) (ho' : OpR X (compareOp op') (r2 X.K g)) (hf : NoEx2 f) (hg : NoEx2 g)
    (ha : PE X a (tW X.K W ow ma)) (hb : PE X b (tW X.K W ow mb)) (hc : PE X c (tW X.K W ow mc))
    (hm : lastMarks [op, op'] [b, c] = false := by with_unfolding_all rfl) : PE X (.Compare a [op, op'] [b, c] pos) (tE X.K W ow (chain f g ma mb mc)) :=
  PE.of (pe_chain ho ho' ha hb hc hm) fun _ _ _ h => chain_of hf hg h
/-! ### tests -/
theorem trim {K : Frag} {A : AS} {H : Hp} {d : D} {v : V} {k : Bool} (h : RepW K A H d v) (e : truthy d = .ok k) : TruV K v H k := by
  cases d with
  | non =>
    simp only [truthy, Res.ok.injEq] at e
    have h' : v = .non := h
    subst h' e
    rfl
  | bl b =>
    simp only [truthy, Res.ok.injEq] at e
    have h' : v = .bl b := h
    subst h' e
    rfl
  | int i =>
    simp only [truthy, Res.ok.injEq] at e
    have h' : v = .int i := h
    subst h' e
    rfl
  | str s =>
    simp only [truthy] at e
    split at e
    · rename_i cc
      simp only [Res.ok.injEq] at e
      have h' : v = .str (Str.ofString s) := h
      subst h' e
      refine ⟨by rw [str_len]; exact cc, ?_⟩
      rw [str_len]
      cases hh : s.length with
      | zero => rfl
      | succ n =>
        have e1 : (((n + 1 : Nat) : Int) == 0) = false := beq_eq_false_iff_ne.mpr (by omega)
        have e2 : ((n + 1 : Nat) == 0) = false := rfl
        unfold bne
        rw [e1, e2]
    · cases e
  | tup xs =>
    simp only [truthy, Res.ok.injEq] at e
    obtain ⟨a, vs, rfl, q, r⟩ := (by simpa only [RepW, Rep] using h : ∃ a vs, v = .ref a ∧ SqT K H a vs ∧ RepL K A H xs vs)
    refine .inr (.inl ⟨vs, q, ?_⟩)
    subst e
    have hl := r.length
    cases xs <;> cases vs <;> first | rfl | simp at hl
  | lst xs =>
    simp only [truthy, Res.ok.injEq] at e
    obtain ⟨a, vs, rfl, q, r⟩ := h
    refine .inl ⟨vs, .inl q, ?_⟩
    subst e
    have hl := r.length
    cases xs <;> cases vs <;> first | rfl | simp at hl
  | dic _ => simp [truthy] at e
  | ins _ _ => simp [truthy] at e
  | drw _ => simp [truthy] at e
theorem no_truthy : ∀ d, (truthy d).isP = true := fun d => by
  cases d <;> simp only [truthy] <;> first | (split <;> rfl) | rfl
/-- any expression as a test -/
theorem t_tst (ha : PE X a (tW X.K W ow ma)) (he : ∀ whole, isTrue a X.env whole = (do let v ← whole; standAt a.pos; holding [v] (PySem.truthy v))) : PT X a (tT X.K W ow (tst ma)) :=
  PT.of (pt_truth ha he) fun σ H Q ⟨A, H0, O, en, R, q⟩ => ⟨A, H0, O, en, R, (Out.bind q).good fun d q1 v H1 s1 r1 => by
    cases e : Py.truthy d with
    | ok k =>
      rw [e] at q1
      exact ⟨k, trim r1 e, q1 H1 s1⟩
    | exc c fs =>
      have := no_truthy d
      rw [e] at this
      cases this
    | pick _ _ =>
      have := no_truthy d
      rw [e] at this
      cases this
    | stuck =>
      rw [e] at q1
      exact q1.elim⟩
/-- what gives a truth, as a test -/
def Bl (m : EM) : Prop := ∀ e d, Res.leaf d (m e) → ∃ k, d = .bl k
theorem Bl.bin {f : D → D → Res D} (hf : NoEx2 f) (h : ∀ x y d, f x y = .ok d → ∃ k, d = .bl k) {ma mb : EM} : Bl (bin f ma mb) := fun e d q => by
  obtain ⟨d1, _, q⟩ := leaf_bind q
  obtain ⟨d2, _, q⟩ := leaf_bind q
  exact h _ _ _ (leaf_isP (hf _ _ () ()) q)
theorem tst_of {m : EM} (hm : Bl m) {σ : L2.St} {H : Hp} {Q : Bool → Hp → Prop} (h : tT X.K W ow (tst m) σ H Q) : tE X.K W ow m σ H fun x H' => ∃ k, x = .bl k ∧ Q k H' := by
  obtain ⟨A, H0, O, en, R, q⟩ := h
  refine ⟨A, H0, O, en, R, (Out.bind q).imp (fun d e q1 v H1 s1 r1 => ?_) fun _ _ x => x⟩
  obtain ⟨k, rfl⟩ := hm _ _ e
  exact ⟨k, bl_of r1, q1 H1 s1⟩
/-- a comparison as a test -/
theorem t_cmp {op : CmpOp} {f : D → D → Res D} (ho : OpR X (compareOp op) (r2 X.K f)) (hf : NoEx2 f) (hb2 : ∀ x y d, f x y = .ok d → ∃ k, d = .bl k) (ha : PE X a (tW X.K W ow ma)) (hb : PE X b (tW X.K W ow mb)) (hm : behindInMarks op b = false) :
    PT X (.Compare a [op] [b] pos) (tT X.K W ow (tst (bin f ma mb))) :=
  PT.of (pt_cmpR ho ha hb hm) fun _ _ _ h => two_of hf (tst_of (Bl.bin hf hb2) h)
theorem b_lt : ∀ x y d, olt x y = .ok d → ∃ k, d = .bl k := fun x y d h => by
  cases x <;> cases y <;> simp only [olt, Res.ok.injEq, reduceCtorEq] at h
  exact ⟨_, h.symm⟩
theorem b_gt : ∀ x y d, ogt x y = .ok d → ∃ k, d = .bl k := fun x y d h => by
  cases x <;> cases y <;> simp only [ogt, Res.ok.injEq, reduceCtorEq] at h
  exact ⟨_, h.symm⟩
theorem b_ge : ∀ x y d, oge x y = .ok d → ∃ k, d = .bl k := fun x y d h => by
  cases x <;> cases y <;> simp only [oge, Res.ok.injEq, reduceCtorEq] at h
  exact ⟨_, h.symm⟩
theorem b_eq : ∀ x y d, oeq x y = .ok d → ∃ k, d = .bl k := fun x y d h => by
  unfold oeq at h
  split at h <;> simp only [Res.ok.injEq, reduceCtorEq] at h
  exact ⟨_, h.symm⟩
theorem b_ne : ∀ x y d, Py.one x y = .ok d → ∃ k, d = .bl k := fun x y d h => by
  unfold Py.one at h
  split at h <;> simp only [Res.ok.injEq, reduceCtorEq] at h
  exact ⟨_, h.symm⟩
theorem b_in : ∀ x y d, oin x y = .ok d → ∃ k, d = .bl k := fun x y d h => by
  cases y <;> simp only [oin, reduceCtorEq] at h <;> split at h <;> simp only [Res.ok.injEq, reduceCtorEq] at h <;> exact ⟨_, h.symm⟩
theorem b_notin : ∀ x y d, onotin x y = .ok d → ∃ k, d = .bl k := fun x y d h => by
  cases y <;> simp only [onotin, reduceCtorEq] at h <;> split at h <;> simp only [Res.ok.injEq, reduceCtorEq] at h <;> exact ⟨_, h.symm⟩
theorem t_and1 {t : TM} (ha : PT X a (tT X.K W ow t)) : PW X (.BoolOp .And [a] pos) (tT X.K W ow t) := pw_and1 ha
theorem t_or1 {t : TM} (ha : PT X a (tT X.K W ow t)) : PW X (.BoolOp .Or [a] pos) (tT X.K W ow t) := pw_or1 ha
theorem t_and {t u : TM} {rest : List Expr} (ha : PT X a (tT X.K W ow t)) (hb : PW X (.BoolOp .And (b :: rest) pos) (tT X.K W ow u)) : PW X (.BoolOp .And (a :: b :: rest) pos) (tT X.K W ow (andT t u)) :=
  PW.of (pw_and ha hb) fun σ H Q ⟨A, H0, O, en, R, q⟩ => ⟨A, H0, O, en, R, (Out.bind q).good fun k q1 H1 s1 => by
    cases k with
    | true =>
      rw [if_pos rfl] at q1 ⊢
      exact ⟨A, H0, O, en, R.to s1, (q1.to s1).good fun d2 q2 H2 s2 => q2 H2 (s1.trans s2)⟩
    | false =>
      rw [if_neg (by decide)] at q1 ⊢
      exact q1 H1 s1⟩
theorem t_or {t u : TM} {rest : List Expr} (ha : PT X a (tT X.K W ow t)) (hb : PW X (.BoolOp .Or (b :: rest) pos) (tT X.K W ow u)) : PW X (.BoolOp .Or (a :: b :: rest) pos) (tT X.K W ow (orT t u)) :=
  PW.of (pw_or ha hb) fun σ H Q ⟨A, H0, O, en, R, q⟩ => ⟨A, H0, O, en, R, (Out.bind q).good fun k q1 H1 s1 => by
    cases k with
    | false =>
      rw [if_neg (by decide)] at q1 ⊢
      exact ⟨A, H0, O, en, R.to s1, (q1.to s1).good fun d2 q2 H2 s2 => q2 H2 (s1.trans s2)⟩
    | true =>
      rw [if_pos rfl] at q1 ⊢
      exact q1 H1 s1⟩
theorem t_not {t : TM} (ha : PT X a (tT X.K W ow t)) : PT X (.UnaryOp .Not a pos) (tT X.K W ow (notT t)) :=
  PT.of (pt_not ha) fun σ H Q ⟨A, H0, O, en, R, q⟩ => ⟨A, H0, O, en, R, (Out.bind q).good fun k q1 H1 s1 => q1 H1 s1⟩
/-! ### is None, is True -/
theorem isN_v {K : Frag} {A : AS} {H : Hp} {d : D} {v : V} (h : RepW K A H d v) : decide (v = .non) = isNon d := by
  cases d with
  | non =>
    have h' : v = .non := h
    subst h'
    rfl
  | bl b =>
    have h' : v = .bl b := h
    subst h'
    rfl
  | int b =>
    have h' : v = .int b := h
    subst h'
    rfl
  | str b =>
    have h' : v = .str (Str.ofString b) := h
    subst h'
    rfl
  | tup xs =>
    obtain ⟨a, vs, rfl, q, r⟩ := (by simpa only [RepW, Rep] using h : ∃ a vs, v = .ref a ∧ SqT K H a vs ∧ RepL K A H xs vs)
    rfl
  | lst xs =>
    obtain ⟨a, vs, rfl, q, r⟩ := h
    rfl
  | dic _ _ =>
    obtain ⟨a, rfl, _⟩ := h
    rfl
  | ins _ _ =>
    obtain ⟨a, dx, fvs, rfl, _⟩ := h
    rfl
  | drw q =>
    cases q with
    | inl k =>
      obtain ⟨a, a0, xs, rfl, _⟩ := (by simpa only [RepW, Rep] using h : ∃ a a0 xs, v = .ref a ∧ ¬ A a ∧ H a = some (poolO k a a0) ∧ ¬ A a0 ∧ Rd H a0 (.lst ((xs : List Int).map V.int)))
      rfl
    | inr q =>
      obtain ⟨rfl, _⟩ := (by simpa only [RepW, Rep] using h : v = .ref q.1 ∧ ¬ A q.1 ∧ Rd H q.1 (.lst (q.2.map V.int)))
      rfl
theorem x_isN {j pos'} (ha : PE X a (tW X.K W ow ma)) : PE X (.Compare a [.Is] [.Constant .none j pos'] pos) (tE X.K W ow (un oisN ma)) :=
  PE.of (pe_cmp (pc_isN ha)) fun σ H Q ⟨A, H0, O, en, R, q⟩ => ⟨A, H0, O, en, R, (Out.bind q).good fun d q1 v H1 s1 r1 => by
    dsimp only
    rw [isN_v r1]
    exact q1 _ _ s1 rep_bl⟩
theorem Bl.un {f : D → Res D} (hf : NoEx1 f) (h : ∀ x d, f x = .ok d → ∃ k, d = .bl k) {ma : EM} : Bl (un f ma) := fun e d q => by
  obtain ⟨d1, _, q⟩ := leaf_bind q
  exact h _ _ (leaf_isP (hf _ () ()) q)
theorem b_isN : ∀ x d, oisN x = .ok d → ∃ k, d = .bl k := fun x d h => ⟨_, (Res.ok.inj h).symm⟩
theorem t_isN {j pos'} (ha : PE X a (tW X.K W ow ma)) : PT X (.Compare a [.Is] [.Constant .none j pos'] pos) (tT X.K W ow (tst (un oisN ma))) :=
  PT.of (pt_cmp (pc_isN ha)) fun σ H Q h => by
    obtain ⟨A, H0, O, en, R, q⟩ := tst_of (Bl.un (fun _ _ _ => rfl) b_isN) h
    refine ⟨A, H0, O, en, R, (Out.bind q).good fun d q1 v H1 s1 r1 => ?_⟩
    dsimp only
    rw [isN_v r1]
    exact q1 _ _ s1 rep_bl
end
end Py
/-! Displays, subscripts, attributes, calls of built-ins. -/
namespace Py
variable [WI]
open PySem L2 PySem.Spec PyProof.Rows
/-- values and data, one by one -/
theorem paired_rep {K : Frag} {A : AS} {H : Hp} : ∀ {vs : List V} {ds : List D}, Paired (fun v d => Rep K A H d v) vs ds → RepL K A H ds vs
  | _, _, .nil => by simp [RepL]
  | _, _, .cons r t => by
    simp only [RepL]
    exact ⟨_, _, rfl, r, paired_rep t⟩
section
variable {X : Cx} [CW X] {W : WX} {A : AS} {H0 : Base} {ow : Ow} {a b c e : Expr} {es : List Expr} {m ma mb mc : EM} {am : AM} {pos : Pos}
/-! ### argument lists -/
abbrev aE (K : Frag) := tA (Rep K) K
theorem xa_nil {R : RR} : PA X [] (tA R X.K W ow argN) := PA.of pa_nil fun σ H Q ⟨A, H0, O, en, R', q⟩ => q [] H (Same.refl H) .nil
theorem xa_cons (ha : PE X e (tE X.K W ow m)) (hr : PA X es (aE X.K W ow am)) (hs : starEach (e :: es) X.env = (false, eval e X.env) :: starEach es X.env := by rfl) : PA X (e :: es) (aE X.K W ow (argC m am)) :=
  PA.of (pa_cons ha hr hs) fun σ H Q ⟨A, H0, O, en, R, q⟩ => ⟨A, H0, O, en, R, (Out.bind q).good fun d q1 v H1 s1 r1 => ⟨A, H0, O, en, R.to s1, ((Out.bind q1).to s1).good fun ds q2 vs H2 s2 r2 =>
    q2 (v :: vs) H2 (s1.trans s2) (.cons (Rep.move (Mv.same s2) _ _ r1) r2)⟩⟩
/-! ### displays -/
theorem x_tup {x1} (h : PA X es (aE X.K W ow am)) : PE X (.Tuple es x1 pos) (tE X.K W ow (tupE am)) :=
  PE.of (pe_tup h) fun σ H Q ⟨A, H0, O, en, R, q⟩ => ⟨A, H0, O, en, R, (Out.bind q).good fun ds q1 vs H1 s1 r1 => by
    have rl := paired_rep r1
    unfold chk at q1
    split at q1
    · rename_i z
      exact ⟨by rw [← rl.length]; exact z, fun p hp => q1 _ _ (s1.trans (new_same hp)) (new_tup rl hp)⟩
    · exact q1.elim⟩
theorem f_lst (h : PA X es (aE X.K W ow am)) : PE X (.List es pos) (tF X.K W ow (lstE am)) :=
  PE.of (pe_lst h) fun σ H Q ⟨A, H0, O, en, R, q⟩ => ⟨A, H0, O, en, R, (Out.bind q).good fun ds q1 vs H1 s1 r1 => by
    have rl := paired_rep r1
    unfold chk at q1
    split at q1
    · rename_i z
      refine ⟨by rw [← rl.length]; exact z, fun p hp => q1 p _ (s1.free hp) (s1.trans (new_same hp)) ⟨vs, upd_same, ?_⟩⟩
      refine RepL.move ⟨fun b hb => ?_, fun b o e _ => new_same hp b o e⟩ _ _ rl
      rcases hb with hb | rfl
      · exact .inl hb
      · exact .inr hp
    · exact q1.elim⟩
/-! ### subscripts -/
def r2n (K : Frag) (f : D → D → Res D) : R2 := fun x y H Q => ∃ A d1 d2 d, isDic d1 = false ∧ RepW K A H d1 x ∧ RepW K A H d2 y ∧ (∀ a, A a → H a ≠ none) ∧ f d1 d2 = .ok d ∧ ∀ v H', Same H H' → Rep K A H' d v → Q v H'
theorem y_idx0 : IxR X (r2n X.K oidx) := by
  intro value slice pins s σ H x y v u Q I rx ry ⟨A, d1, d2, d, hnd, h1, h2, ha, e, k⟩ hs
  cases d1 with
  | lst xs =>
    cases d2 <;> simp only [oidx, reduceCtorEq] at e
    rename_i i
    obtain ⟨a, vs, rfl, q, r⟩ := h1
    unfold opt at e
    split at e
    · rename_i d' he
      simp only [Res.ok.injEq] at e
      subst e
      unfold atI at he
      cases hj : ixN xs.length i with
      | none => rw [hj] at he; cases he
      | some j =>
        rw [hj] at he
        obtain ⟨w, hw, rw'⟩ := r.get (show xs[j]? = some d' from he)
        refine ix_list value slice pins s σ H _ _ v u Q I rx ry ⟨a, vs, i, w, rfl, h2, .inl q, ?_, k w H (Same.refl H) rw'⟩ hs
        unfold atI
        rw [← r.length, hj]
        exact hw
    · cases e
  | tup xs =>
    cases d2 <;> simp only [oidx, reduceCtorEq] at e
    rename_i i
    obtain ⟨a, vs, rfl, q, r⟩ := (by simpa only [RepW, Rep] using h1 : ∃ a vs, x = .ref a ∧ SqT X.K H a vs ∧ RepL X.K A H xs vs)
    unfold opt at e
    split at e
    · rename_i d' he
      simp only [Res.ok.injEq] at e
      subst e
      unfold atI at he
      cases hj : ixN xs.length i with
      | none => rw [hj] at he; cases he
      | some j =>
        rw [hj] at he
        obtain ⟨w, hw, rw'⟩ := r.get (show xs[j]? = some d' from he)
        refine ix_tup value slice pins s σ H _ _ v u Q I rx ry ⟨a, vs, i, w, rfl, h2, q, ?_, k w H (Same.refl H) rw'⟩ hs
        unfold atI
        rw [← r.length, hj]
        exact hw
    · cases e
  | str z =>
    cases d2 <;> simp only [oidx, reduceCtorEq] at e
    rename_i i
    split at e
    · rename_i hz
      have h1' : x = .str (Str.ofString z) := h1
      have h2' : y = .int i := h2
      subst h1' h2'
      unfold opt at e
      split at e
      · rename_i d' he
        simp only [Res.ok.injEq] at e
        subst e
        unfold atI at he
        cases hj : ixN z.toList.length i with
        | none => rw [hj] at he; cases he
        | some j =>
          rw [hj] at he
          have he1 : Option.map (fun c => D.str (String.ofList [c])) (z.toList[j]?) = some d' := he
          cases hc : z.toList[j]? with
          | none => rw [hc] at he1; cases he1
          | some ch =>
            rw [hc] at he1
            have he2 : D.str (String.ofList [ch]) = d' := Option.some.inj he1
            subst he2
            have e1 : (Str.ofString z).cps.toList = z.toList.map Char.toNat := by rw [Str.ofString_eq_toList]
            refine ix_str value slice pins s σ H _ _ v u Q I rx ry ⟨_, i, ch.toNat, rfl, rfl, by rw [str_len]; exact hz, ?_, ?_⟩ hs
            · unfold atI
              rw [e1, List.length_map, hj]
              show (List.map Char.toNat z.toList)[j]? = _
              rw [List.getElem?_map, hc]
              rfl
            · have e2 : Str.ofString (String.ofList [ch]) = ⟨#[ch.toNat]⟩ := by
                rw [Str.ofString_eq_toList, String.toList_ofList]
                rfl
              rw [← e2]
              exact k _ H (Same.refl H) rfl
      · cases e
    · cases e
  | dic t kvs => simp [isDic] at hnd
  | _ => simp [oidx] at e
theorem y_idx (hu : X.A.units + 16 < cLine) : IxR X (r2 X.K oidx) := by
  intro value slice pins s σ H x y v u Q I rx ry ⟨A, d1, d2, d, h1, h2, ha, e, k⟩ hs
  cases hnd : isDic d1 with
  | false => exact y_idx0 value slice pins s σ H x y v u Q I rx ry ⟨A, d1, d2, d, hnd, h1, h2, ha, e, k⟩ hs
  | true =>
    cases d1 <;> simp only [isDic, reduceCtorEq] at hnd
    rename_i t kvs
    simp only [oidx] at e
    split at e
    · rename_i hk
      obtain ⟨a, rfl, g⟩ := h1
      cases (show v = Value.ref a from rx)
      have h2' : Rep X.K A H d2 y := by
        cases d2 <;> first | exact h2 | (cases t <;> simp [keyOk] at hk)
      unfold opt at e
      split at e
      · rename_i d' hf
        simp only [Res.ok.injEq] at e
        subst e
        exact tail_any (dic_type I g) slot_dict_getitem.lookup (dic_get hu I g hk h2' ry hf fun v w' s' I' r' rv => ⟨v, H, I', r', k v H (Same.refl H) rv⟩) hs
      · cases e
    · cases e
theorem n_idx : NoEx2 oidx := fun x y c fs => by
  have ho : ∀ o, (opt o).isP = true := fun o => by cases o <;> rfl
  cases x <;> cases y <;> simp only [oidx] <;> first | rfl | exact ho _ | (split <;> first | exact ho _ | rfl)
theorem x_idx (hi : IxR X (r2 X.K oidx)) (ha : PE X a (tW X.K W ow ma)) (hb : PE X b (tW X.K W ow mb)) (hs : PlainIx b := by exact fun _ _ => rfl) : PE X (.Subscript a b pos) (tE X.K W ow (bin oidx ma mb)) :=
  PE.of (pe_ix hi ha hb hs) fun _ _ _ h => two_of n_idx h
/-! ### slices -/
theorem RepL.cut {K : Frag} {A : AS} {H : Hp} {ds : List D} {vs : List V} (h : RepL K A H ds vs) (lo hi : Option Int) : RepL K A H (Py.cut ds lo hi) (cutV vs lo hi) := by
  unfold Py.cut cutV
  rw [h.length]
  exact (h.drop _).take _
def rS (K : Frag) : V → Option Int → Option Int → Hp → VK → Prop := fun x lo hi H Q => ∃ A d1 d, RepW K A H d1 x ∧ (∀ a, A a → H a ≠ none) ∧ oslc d1 lo hi = .ok d ∧ ∀ v H', Same H H' → Rep K A H' d v → Q v H'
theorem cut_all {α : Type} {xs : List α} {lo hi : Option Int} (h : HT.sIx xs.length 0 lo = 0 ∧ HT.sIx xs.length xs.length hi = xs.length) : Py.cut xs lo hi = xs := by
  unfold Py.cut
  rw [h.1, h.2]
  simp
theorem y_slc : SlR X (rS X.K) := by
  intro pins s σ H x v vl vu lo hi sl Q I rx hs pl' pu h
  obtain ⟨A, d1, d, h1, ha, e, k⟩ := h
  cases d1 with
  | lst xs =>
    simp only [oslc, Res.ok.injEq] at e
    subst e
    obtain ⟨a, vs, rfl, q, r⟩ := h1
    exact sl_list pins s σ H _ v vl vu lo hi sl Q I rx hs pl' pu ⟨a, vs, rfl, .inl q, fun p hp => k _ _ (new_same hp) (new_lst ha (r.cut lo hi) hp)⟩
  | tup xs =>
    simp only [oslc, Res.ok.injEq] at e
    subst e
    obtain ⟨a, vs, rfl, q, r⟩ := (by simpa only [RepW, Rep] using h1 : ∃ a vs, x = .ref a ∧ SqT X.K H a vs ∧ RepL X.K A H xs vs)
    refine sl_tupA pins s σ H _ v vl vu lo hi sl Q I rx hs pl' pu ⟨a, vs, rfl, q, fun z => ?_, fun _ p hp => k _ _ (new_same hp) (new_tup (r.cut lo hi) hp)⟩
    rw [← r.length] at z
    rw [cut_all z] at k
    exact k _ H (Same.refl H) h1
  | str z =>
    simp only [oslc] at e
    split at e
    · rename_i hz
      simp only [Res.ok.injEq] at e
      subst e
      have h1' : x = .str (Str.ofString z) := h1
      subst h1'
      refine sl_str pins s σ H _ v vl vu lo hi sl Q I rx hs pl' pu ⟨_, rfl, by rw [str_len]; exact hz, ?_⟩
      have e1 : cutS (Str.ofString z) lo hi = Str.ofString (String.ofList (Py.cut z.toList lo hi)) := by
        rw [Str.ofString_eq_toList (String.ofList _), String.toList_ofList]
        unfold cutS Py.cut
        rw [str_len]
        rw [Str.ofString_eq_toList]
        simp [List.map_take, List.map_drop, String.length_toList]
      rw [e1]
      exact k _ H (Same.refl H) rfl
    · cases e
  | _ => simp [oslc] at e
end
end Py
/-! Slices as expressions, attributes, calls of built-ins, isinstance. -/
namespace Py
variable [WI]
open PySem L2
/-! ### own classes: what isinstance and attributes ask -/
structure KitC (K : Frag) (cs : List String) (c : String) : Prop where
  cl : Cls K (ca K c)
  ha : PySem.W.findIn K (.ref (ca K c)) "__class__" = some (some (.builtin "object.__class__"))
  hn : PySem.W.specialIn K (.builtin "object.__class__") "__get__" = some (some (.builtin "getset_descriptor.__get__"))
  ht : PySem.W.takesIn K (.builtin "object.__class__") = some true
  hm : PySem.W.mroIn K (ca K c) (.type "object") = some true
  oo : ∀ d ∈ cs, PySem.W.kitOne K (.ref (ca K c)) (.ref (ca K d)) = some (decide (c = d))
  ob : ∀ T ∈ tyNames, PySem.W.kitOne K (.ref (ca K c)) (.type T) = some false
  bo : ∀ T ∈ tyNames, PySem.W.kitOne K (.type T) (.ref (ca K c)) = some false
def KitF (K : Frag) (cs : List String) : Prop := ∀ c ∈ cs, KitC K cs c
theorem kit_of_b {K : Frag} {cs : List String} (h : kitB K cs = true) : KitF K cs := fun c hc => by
  have h1 := List.all_eq_true.mp h c hc
  simp only [Bool.and_eq_true, decide_eq_true_eq, List.all_eq_true] at h1
  obtain ⟨a1, a2, a3, a4, a5, a6, a7⟩ := h1
  exact ⟨He.cls_ok a1, a2, a3, a4, a5, a6, fun T hT => (a7 T hT).1, fun T hT => (a7 T hT).2⟩
def tyN : Ty → String
  | .non => "NoneType" | .bl => "bool" | .int => "int" | .str => "str" | .tup => "tuple" | .lst => "list" | .dic => "dict" | .cls c => c
def tyV (K : Frag) : Ty → V
  | .cls c => .ref (ca K c)
  | t => .ty (tyN t)
def tyU (K : Frag) : Ty → Value
  | .cls c => .ref (ca K c)
  | t => .type (tyN t)
theorem ty_cls (K : Frag) (t : Ty) : ClsV (tyV K t) (tyU K t) := by
  cases t <;> first | exact .ty _ | exact .own _
theorem isI_ty (t : Ty) (d : D) (h : t ≠ .non) : isI t d = (decide (t = tyOf d) || (decide (tyOf d = .bl) && decide (t = .int))) := by
  cases d <;> cases t <;> simp [isI, tyOf] at h ⊢
theorem kit_one {K : Frag} {cs : List String} (F : KitF K cs) {t : Ty} {d : D} (h1 : inCs cs t = true) (h2 : inCs cs (tyOf d) = true) (hn : t ≠ .non) : PySem.W.kitOne K (tyU K (tyOf d)) (tyU K t) = some (isI t d) := by
  rw [isI_ty t d hn]
  cases ht : t with
  | cls c =>
    subst ht
    have hc : c ∈ cs := by simpa [inCs] using h1
    cases hd : tyOf d with
    | cls c' =>
      rw [hd] at h2
      have hc' : c' ∈ cs := by simpa [inCs] using h2
      have := (F c' hc').oo c hc
      show PySem.W.kitOne K (.ref (ca K c')) (.ref (ca K c)) = _
      rw [this]
      by_cases q : c = c'
      · subst q
        simp
      · have q2 : ¬ c' = c := fun z => q z.symm
        simp [q, q2]
    | _ =>
      show PySem.W.kitOne K (.type _) (.ref (ca K c)) = _
      rw [(F c hc).bo _ (by decide)]
      simp
  | non => exact absurd ht hn
  | _ =>
    cases hd : tyOf d with
    | cls c' =>
      rw [hd] at h2
      have hc' : c' ∈ cs := by simpa [inCs] using h2
      show PySem.W.kitOne K (.ref (ca K c')) (.type _) = _
      rw [(F c' hc').ob _ (by decide)]
      simp
    | _ => exact L2.kit_ty (by rw [← show tyN _ = _ from rfl]; decide +kernel)
theorem tyx_of {K : Frag} {cs : List String} (F : KitF K cs) {A : AS} {H : Hp} {d : D} {v : V} (h : RepW K A H d v) (h2 : inCs cs (tyOf d) = true) : TyX K H v (tyU K (tyOf d)) := by
  cases d with
  | non =>
    have h' : v = .non := h
    subst h'
    exact .base .non
  | bl b =>
    have h' : v = .bl b := h
    subst h'
    exact .base (.bl _)
  | int b =>
    have h' : v = .int b := h
    subst h'
    exact .base (.int _)
  | str b =>
    have h' : v = .str (Str.ofString b) := h
    subst h'
    exact .base (.str _)
  | tup xs =>
    obtain ⟨a, vs, rfl, q, r⟩ := (by simpa only [RepW, Rep] using h : ∃ a vs, v = .ref a ∧ SqT K H a vs ∧ RepL K A H xs vs)
    rcases q with (q | ⟨o, q⟩) | ⟨o, its, n, q1, q2, _⟩
    · exact .base (.tup q)
    · exact .fTuple q
    · exact .kTuple q1 q2
  | lst xs =>
    obtain ⟨a, vs, rfl, q, r⟩ := h
    rcases q with q | ⟨o, q⟩
    · exact .base (.lst q)
    · exact .base (.frz q)
  | dic _ _ => simp [inCs, tyOf] at h2
  | drw _ => simp [inCs, tyOf] at h2
  | ins c fs =>
    obtain ⟨a, dx, fvs, rfl, q, _⟩ := h
    have hc : c ∈ cs := by simpa [inCs, tyOf] using h2
    have k := F c hc
    exact .base (.ins q k.cl k.ha k.hn k.ht k.hm)
/-- isinstance(x, (t1, t2, ..)) -/
theorem n_isi {cs : List String} {ts : List Ty} : NoEx1 (oisi cs ts) := fun x c fs => by
  unfold oisi
  split <;> rfl
theorem isi_ok {cs : List String} {ts : List Ty} {d r : D} (h : oisi cs ts d = .ok r) : inCs cs (tyOf d) = true ∧ (∀ t ∈ ts, inCs cs t = true ∧ t ≠ .non) ∧ r = .bl (ts.any fun t => isI t d) := by
  unfold oisi at h
  split at h
  · rename_i c
    simp only [Bool.and_eq_true, List.all_eq_true, decide_eq_true_eq] at c
    simp only [Res.ok.injEq] at h
    exact ⟨c.1, c.2, h.symm⟩
  · cases h
theorem kit_any {K : Frag} {cs : List String} (F : KitF K cs) {d : D} (h2 : inCs cs (tyOf d) = true) : ∀ {ts : List Ty}, (∀ t ∈ ts, inCs cs t = true ∧ t ≠ .non) → PySem.W.kitAny K (tyU K (tyOf d)) (ts.map (tyU K)) = some (ts.any fun t => isI t d)
  | [], _ => rfl
  | t :: ts, h => by
    obtain ⟨a1, a2⟩ := h t (by simp)
    simp only [List.map_cons, List.any_cons]
    refine L2.kitAny_cons (kit_one F a1 h2 a2) (fun e => ?_) fun e => by rw [e]; rfl
    rw [e, Bool.false_or]
    exact kit_any F h2 fun t' h' => h t' (by simp [h'])
theorem RepL.reverse {K : Frag} {A : AS} {H : Hp} : ∀ {ds : List D} {vs : List V}, RepL K A H ds vs → RepL K A H ds.reverse vs.reverse
  | [], vs, h => by
    simp only [RepL] at h
    subst h
    simp [RepL]
  | d :: ds, vs, h => by
    simp only [RepL] at h
    obtain ⟨v, r, rfl, h1, h2⟩ := h
    simp only [List.reverse_cons]
    exact (RepL.reverse h2).append (RepL.one h1)
section
variable {X : Cx} [CW X] {W : WX} {A : AS} {H0 : Base} {ow : Ow} {a b c e : Expr} {es : List Expr} {m ma mb mc : EM} {am : AM} {pos : Pos}
theorem x_isi1 {cs : List String} {t : Ty} {x : Str} {p : Pos} (hx : x = "isinstance") (F : KitF X.K cs) (hg : Gl X x) (hm : X.mg x = none) (ha : PE X a (tW X.K W ow ma)) (hb : PE X b (tC (tyV X.K t)))
    (hs : starEach [a, b] X.env = (false, eval a X.env) :: starEach [b] X.env := by rfl) (hs2 : starEach [b] X.env = [(false, eval b X.env)] := by rfl) (hpl : (backTo pos (starEach [b] X.env)).any (·.1) = false := by rfl) :
    PE X (.Call (.Name x p) [a, b] [] pos) (tE X.K W ow (un (oisi cs [t]) ma)) := by
  subst hx
  refine PE.of (pe_callB call_isi hg hm (by decide +kernel) (pa_cons ha (pa_cons hb pa_nil hs2) hs) (by decide) (by decide) hs hpl) fun σ H Q ⟨A, H0, O, en, R, q⟩ => ⟨A, H0, O, en, R, (Out.bind q).good fun d q1 v H1 s1 r1 => ?_⟩
  cases e : oisi cs [t] d with
  | exc _ _ =>
    rw [e] at q1
    exact absurd (e ▸ n_isi (cs := cs) d () () : (Res.exc _ _ : Res D).isP = true) (by simp [Res.isP])
  | pick _ _ =>
    exact absurd (e ▸ n_isi (cs := cs) d () () : (Res.pick _ _ : Res D).isP = true) (by simp [Res.isP])
  | stuck =>
    rw [e] at q1
    exact q1.elim
  | ok r =>
    rw [e] at q1
    obtain ⟨h1, h2, rfl⟩ := isi_ok e
    obtain ⟨h3, h4⟩ := h2 t (by simp)
    refine ⟨v, tyV X.K t, tyU X.K (tyOf d), tyU X.K t, isI t d, rfl, ty_cls _ _, tyx_of F r1 h1, kit_one F h3 h1 h4, ?_⟩
    have q2 := q1 (.bl ([t].any fun t => isI t d)) H1 s1 rep_bl
    simpa using q2
/-- a tuple of classes as written -/
inductive TyL (X : Cx) : List Expr → List Ty → TA → Prop
  | nil : TyL X [] [] tNil
  | cons {e : Expr} {es : List Expr} {t : Ty} {ts : List Ty} {r : TA} (h : PE X e (tC (tyV X.K t))) (k : TyL X es ts r) (hs : starEach (e :: es) X.env = (false, eval e X.env) :: starEach es X.env) : TyL X (e :: es) (t :: ts) (tCons (tC (tyV X.K t)) r)
theorem TyL.pa {es : List Expr} {ts : List Ty} {r : TA} (h : TyL X es ts r) : PA X es r := by
  induction h with
  | nil => exact pa_nil
  | cons h _ hs ih => exact pa_cons h ih hs
theorem TyL.run {es : List Expr} {ts : List Ty} {r : TA} (h : TyL X es ts r) : ∀ {σ : L2.St} {H : Hp} {Q : List V → Hp → Prop}, Q (ts.map (tyV X.K)) H → r σ H Q := by
  induction h with
  | nil => exact fun q => q
  | cons h _ hs ih => exact fun q => ih (Q := fun xs H2 => _) q
theorem ty_all (K : Frag) : ∀ ts : List Ty, Paired ClsV (ts.map (tyV K)) (ts.map (tyU K))
  | [] => .nil
  | t :: ts => .cons (ty_cls K t) (ty_all K ts)
theorem x_isiT {cs : List String} {ts : List Ty} {r : TA} {x : Str} {p tp : Pos} {tk} (hx : x = "isinstance") (F : KitF X.K cs) (hg : Gl X x) (hm : X.mg x = none) (ha : PE X a (tW X.K W ow ma)) (hb : TyL X es ts r) (hz : ts.length ≤ 20)
    (hs : starEach [a, .Tuple es tk tp] X.env = (false, eval a X.env) :: starEach [.Tuple es tk tp] X.env := by rfl) (hs2 : starEach [.Tuple es tk tp] X.env = [(false, eval (.Tuple es tk tp) X.env)] := by rfl) (hpl : (backTo pos (starEach [.Tuple es tk tp] X.env)).any (·.1) = false := by rfl) :
    PE X (.Call (.Name x p) [a, .Tuple es tk tp] [] pos) (tE X.K W ow (un (oisi cs ts) ma)) := by
  subst hx
  refine PE.of (pe_callB call_isiT hg hm (by decide +kernel) (pa_cons ha (pa_cons (pe_tup hb.pa) pa_nil hs2) hs) (by decide) (by decide) hs hpl) fun σ H Q ⟨A, H0, O, en, R, q⟩ => ⟨A, H0, O, en, R, (Out.bind q).good fun d q1 v H1 s1 r1 => ?_⟩
  cases e : oisi cs ts d with
  | exc _ _ =>
    rw [e] at q1
    exact absurd (e ▸ n_isi (cs := cs) d () () : (Res.exc _ _ : Res D).isP = true) (by simp [Res.isP])
  | pick _ _ =>
    exact absurd (e ▸ n_isi (cs := cs) d () () : (Res.pick _ _ : Res D).isP = true) (by simp [Res.isP])
  | stuck =>
    rw [e] at q1
    exact q1.elim
  | ok r =>
    rw [e] at q1
    obtain ⟨h1, h2, rfl⟩ := isi_ok e
    refine hb.run ⟨by rw [List.length_map]; exact Nat.le_trans hz (by decide), fun p hp => ?_⟩
    exact ⟨v, p, ts.map (tyV X.K), tyU X.K (tyOf d), ts.map (tyU X.K), _, rfl, upd_same, ty_all _ _, tyx_of F (r1.move (new_same hp)) h1, kit_any F h1 h2, q1 _ _ (s1.trans (new_same hp)) rep_bl⟩
/-! ### attributes -/
/-- a field that holds no inner object -/
theorem x_attr {cs : List String} {f : String} (F : ∀ c ∈ cs, Cls X.K (ca X.K c) ∧ NoAttr X.K (ca X.K c) (Str.ofString f)) (ha : PE X a (tW X.K W ow ma))
    (hb : attributeBase a (Str.ofString f) X.env (eval a X.env) = eval a X.env := by rfl) (hn : (cs.all fun c => !inn c f) = true := by decide) : PE X (.Attribute a (Str.ofString f) pos) (tE X.K W ow (un (oattr cs f) ma)) :=
  PE.of (pe_fld ha hb) fun σ H Q ⟨A, H0, O, en, R, q⟩ => ⟨A, H0, O, en, R, (Out.bind q).good fun d q1 v H1 s1 r1 => by
    cases d with
    | ins c fs =>
      simp only [oattr] at q1
      split at q1
      · rename_i hc
        obtain ⟨h1, h2⟩ := F c (by simpa using hc)
        have hni : inn c f = false := by simpa using List.all_eq_true.mp hn c (by simpa using hc)
        obtain ⟨p, dx, fvs, rfl, q2, r2⟩ := r1
        cases hl : fs.lookup f with
        | none =>
          rw [hl] at q1
          exact q1.elim
        | some d' =>
          rw [hl] at q1
          obtain ⟨v', e1, r'⟩ := r2.look hl
          rw [hni] at r'
          exact ⟨p, _, dx, fvs, v', rfl, q2, h1, h2, e1, q1 v' H1 s1 r'⟩
      · exact q1.elim
    | _ => exact q1.elim⟩
/-- any field, read -/
theorem x_attrW {cs : List String} {f : String} (F : ∀ c ∈ cs, Cls X.K (ca X.K c) ∧ NoAttr X.K (ca X.K c) (Str.ofString f)) (ha : PE X a (tW X.K W ow ma))
    (hb : attributeBase a (Str.ofString f) X.env (eval a X.env) = eval a X.env := by rfl) : PE X (.Attribute a (Str.ofString f) pos) (tW X.K W ow (un (oattr cs f) ma)) :=
  PE.of (pe_fld ha hb) fun σ H Q ⟨A, H0, O, en, R, q⟩ => ⟨A, H0, O, en, R, (Out.bind q).good fun d q1 v H1 s1 r1 => by
    cases d with
    | ins c fs =>
      simp only [oattr] at q1
      split at q1
      · rename_i hc
        obtain ⟨h1, h2⟩ := F c (by simpa using hc)
        obtain ⟨p, dx, fvs, rfl, q2, r2⟩ := r1
        cases hl : fs.lookup f with
        | none =>
          rw [hl] at q1
          exact q1.elim
        | some d' =>
          rw [hl] at q1
          obtain ⟨v', e1, r'⟩ := r2.look hl
          refine ⟨p, _, dx, fvs, v', rfl, q2, h1, h2, e1, q1 v' H1 s1 ?_⟩
          cases hi : inn c f with
          | true =>
            rw [hi] at r'
            exact RepW.ofU r'
          | false =>
            rw [hi] at r'
            exact RepW.of r'
      · exact q1.elim
    | _ => exact q1.elim⟩
/-! ### slices -/
/-- a part of a slice -/
def tO (K : Frag) (W : WX) (ow : Ow) (m : Option EM) : TO := fun σ H Q => ∃ A H0 O e, ER K A H0 ow O σ H e ∧
  Out (slc.bnd m e) (fun o => ∀ H', Same H H' → Q o H') (badE K W A O σ H)
theorem o_none : PO X none (tO X.K W ow none) := ⟨fun pins s σ H Q I ⟨A, H0, O, en, R, q⟩ => po_none.run pins s σ H Q I (q H (Same.refl H))⟩
theorem o_some (h : PE X e (tE X.K W ow m)) : PO X (some e) (tO X.K W ow (some m)) := ⟨fun pins s σ H Q I ⟨A, H0, O, en, R, q⟩ => (po_some h).run pins s σ H Q I ⟨A, H0, O, en, R, (Out.bind q).good fun d q1 v H1 s1 r1 => by
  cases d with
  | int i => exact ⟨i, r1, q1 H1 s1⟩
  | _ => exact q1.elim⟩⟩
theorem x_slc {lo hi : Option Expr} {ml mh : Option EM} {p2 : Pos} (ha : PE X a (tW X.K W ow ma)) (hl : PO X lo (tO X.K W ow ml)) (hh : PO X hi (tO X.K W ow mh)) : PE X (.Subscript a (.Slice lo hi none p2) pos) (tE X.K W ow (slc ma ml mh)) :=
  PE.of (pe_slice y_slc ha hl hh) fun σ H Q ⟨A, H0, O, en, R, q⟩ => ⟨A, H0, O, en, R, (Out.bind q).good fun d q1 v H1 s1 r1 => ⟨A, H0, O, en, R.to s1, ((Out.bind q1).to s1).good fun i q2 H2 s2 => ⟨A, H0, O, en, (R.to s1).to s2, ((Out.bind q2).to (s1.trans s2)).good fun j q3 H3 s3 => by
    cases e : oslc d i j with
    | ok z =>
      rw [e] at q3
      exact ⟨_, d, z, r1.move (s2.trans s3), (((R.to s1).to s2).to s3).there, e, fun v' H' s' r' => q3 v' H' (((s1.trans s2).trans s3).trans s') r'⟩
    | exc c fs =>
      exfalso
      cases d <;> simp only [oslc, reduceCtorEq] at e
      split at e <;> cases e
    | pick c fs =>
      exfalso
      cases d <;> simp only [oslc, reduceCtorEq] at e
      split at e <;> cases e
    | stuck =>
      rw [e] at q3
      exact q3.elim⟩⟩⟩
/-! ### built-in calls -/
def c1 (K : Frag) (f : D → Res D) : List V → Hp → VK → Prop := fun vs H Q => ∃ x, vs = [x] ∧ r1 K f x H Q
def c2 (K : Frag) (f : D → D → Res D) : List V → Hp → VK → Prop := fun vs H Q => ∃ x y, vs = [x, y] ∧ r2 K f x y H Q
theorem cimp {f : Value} {r r' : List V → Hp → VK → Prop} (h : CallR X f r) (k : ∀ x H Q, r' x H Q → r x H Q) : CallR X f r' := fun pins s σ H xs us Q I rx q => h pins s σ H xs us Q I rx (k xs H Q q)
theorem x_b1 {id : String} {x : Str} {p : Pos} {f : D → Res D} (hc : CallR X (.builtin id) (c1 X.K f)) (hf : NoEx1 f) (hg : Gl X x) (hm : X.mg x = none) (hv : bootBuiltins x = some (.builtin id)) (ha : PE X a (tW X.K W ow ma)) (hn : x ≠ "__name__" := by decide) (hdb : (x == ("__debug__" : Str)) = false := by decide)
    (hs : starEach [a] X.env = [(false, eval a X.env)] := by rfl) : PE X (.Call (.Name x p) [a] [] pos) (tE X.K W ow (un f ma)) :=
  PE.of (pe_callB hc hg hm hv (pa_cons ha pa_nil hs) hn hdb hs (by rfl)) fun σ H Q h => by
    obtain ⟨A, H0, O, en, R, q⟩ := one_of hf h
    exact ⟨A, H0, O, en, R, q.good fun d k v H' s r => ⟨v, rfl, k v H' s r⟩⟩
theorem x_t1 {id : String} {x : Str} {p : Pos} {f : D → Res D} (hc : CallR X (.type id) (c1 X.K f)) (hf : NoEx1 f) (hg : Gl X x) (hm : X.mg x = none) (hv : bootBuiltins x = some (.type id)) (ha : PE X a (tW X.K W ow ma)) (hn : x ≠ "__name__" := by decide) (hdb : (x == ("__debug__" : Str)) = false := by decide)
    (hs : starEach [a] X.env = [(false, eval a X.env)] := by rfl) : PE X (.Call (.Name x p) [a] [] pos) (tE X.K W ow (un f ma)) :=
  PE.of (pe_callTy hc hg hm hv (pa_cons ha pa_nil hs) hn hdb hs (by rfl)) fun σ H Q h => by
    obtain ⟨A, H0, O, en, R, q⟩ := one_of hf h
    exact ⟨A, H0, O, en, R, q.good fun d k v H' s r => ⟨v, rfl, k v H' s r⟩⟩
theorem x_b2 {id : String} {x : Str} {p : Pos} {f : D → D → Res D} (hc : CallR X (.builtin id) (c2 X.K f)) (hf : NoEx2 f) (hg : Gl X x) (hm : X.mg x = none) (hv : bootBuiltins x = some (.builtin id)) (ha : PE X a (tW X.K W ow ma)) (hb : PE X b (tW X.K W ow mb)) (hn : x ≠ "__name__" := by decide) (hdb : (x == ("__debug__" : Str)) = false := by decide)
    (hs : starEach [a, b] X.env = (false, eval a X.env) :: starEach [b] X.env := by rfl) (hs2 : starEach [b] X.env = [(false, eval b X.env)] := by rfl) (hpl : (backTo pos (starEach [b] X.env)).any (·.1) = false := by rfl) : PE X (.Call (.Name x p) [a, b] [] pos) (tE X.K W ow (bin f ma mb)) :=
  PE.of (pe_callB hc hg hm hv (pa_cons ha (pa_cons hb pa_nil hs2) hs) hn hdb hs hpl) fun σ H Q h => by
    obtain ⟨A, H0, O, en, R, q⟩ := two_of hf h
    refine ⟨A, H0, O, en, R, q.good fun d k v H' s r => ?_⟩
    obtain ⟨A2, H02, O2, en2, R2, q2⟩ := k v H' s r
    exact ⟨A2, H02, O2, en2, R2, q2.good fun d2 k2 v2 H2 s2 r2' => ⟨v, v2, rfl, k2 v2 H2 s2 r2'⟩⟩
theorem v_len0 : CallR X (.builtin "len") (fun vs H Q => ∃ x, vs = [x] ∧ ∃ A d1 d, isDic d1 = false ∧ RepW X.K A H d1 x ∧ blen d1 = .ok d ∧ ∀ v H', Same H H' → Rep X.K A H' d v → Q v H') := cimp call_len fun xs H Q ⟨x, e0, A, d1, d, hnd, h1, e, k⟩ => by
  subst e0
  cases d1 with
  | str s =>
    simp only [blen] at e
    split at e
    · rename_i hz
      simp only [Res.ok.injEq] at e
      subst e
      have h' : x = .str (Str.ofString s) := h1
      subst h'
      exact ⟨_, s.length, rfl, ⟨by rw [str_len]; exact hz, (str_len s).symm⟩, k _ H (Same.refl H) (flat_rep rfl _ _)⟩
    · cases e
  | tup xs =>
    simp only [blen, Res.ok.injEq] at e
    subst e
    obtain ⟨a, vs, rfl, q, r⟩ := (by simpa only [RepW, Rep] using h1 : ∃ a vs, x = .ref a ∧ SqT X.K H a vs ∧ RepL X.K A H xs vs)
    refine ⟨_, xs.length, rfl, .inr ⟨vs, q, r.length⟩, k _ H (Same.refl H) (flat_rep rfl _ _)⟩
  | lst xs =>
    simp only [blen, Res.ok.injEq] at e
    subst e
    obtain ⟨a, vs, rfl, q, r⟩ := h1
    refine ⟨_, xs.length, rfl, .inl ⟨vs, .inl q, r.length⟩, k _ H (Same.refl H) (flat_rep rfl _ _)⟩
  | dic t kvs => simp [isDic] at hnd
  | _ => simp [blen] at e
theorem v_len : CallR X (.builtin "len") (c1 X.K blen) := fun pins s σ H xs us Q I rx ⟨x, e0, A, d1, d, h1, ha, e, k⟩ => by
  cases hnd : isDic d1 with
  | false => exact v_len0 pins s σ H xs us Q I rx ⟨x, e0, A, d1, d, hnd, h1, e, k⟩
  | true =>
    cases d1 <;> simp only [isDic, reduceCtorEq] at hnd
    simp only [blen, Res.ok.injEq] at e
    subst e
    obtain ⟨a, rfl, g⟩ := h1
    subst e0
    cases rx with
    | cons r rr =>
      cases rr
      cases (show _ = Value.ref a from r)
      exact dic_len I g RepT.len RepK.len fun t' s' I' => ⟨.int _, H, I', ⟨t', rfl⟩, k _ H (Same.refl H) (flat_rep rfl _ _)⟩
theorem n_len : NoEx1 blen := fun x c fs => by
  cases x <;> simp only [blen] <;> first | (split <;> rfl) | rfl
theorem v_int : CallR X (.type "int") (c1 X.K bint) := cimp call_int1 fun xs H Q ⟨x, e0, A, d1, d, h1, _, e, k⟩ => by
  subst e0
  cases d1 with
  | int i =>
    simp only [bint, Res.ok.injEq] at e
    subst e
    have h' : x = .int i := h1
    subst h'
    exact .inl ⟨i, rfl, k _ H (Same.refl H) (flat_rep rfl _ _)⟩
  | bl b =>
    simp only [bint, Res.ok.injEq] at e
    subst e
    have h' : x = .bl b := h1
    subst h'
    exact .inr ⟨b, rfl, k _ H (Same.refl H) (flat_rep rfl _ _)⟩
  | _ => simp [bint] at e
theorem n_int : NoEx1 bint := fun x c fs => by cases x <;> rfl
theorem v_tuple : CallR X (.type "tuple") (c1 X.K btuple) := cimp call_tuple_of fun xs H Q ⟨x, e0, A, d1, d, h1, ha, e, k⟩ => by
  subst e0
  cases d1 with
  | lst xs =>
    simp only [btuple, Res.ok.injEq] at e
    subst e
    obtain ⟨a, vs, rfl, q, r⟩ := h1
    exact ⟨a, vs, rfl, .inl ⟨.inl q, fun l hl => k _ _ (new_same hl) (new_tup r hl)⟩⟩
  | tup xs =>
    simp only [btuple, Res.ok.injEq] at e
    subst e
    obtain ⟨a, vs, rfl, q, r⟩ := (by simpa only [RepW, Rep] using h1 : ∃ a vs, x = .ref a ∧ SqT X.K H a vs ∧ RepL X.K A H xs vs)
    exact ⟨a, vs, rfl, .inr ⟨q, k _ H (Same.refl H) h1⟩⟩
  | _ => simp [btuple] at e
theorem n_tuple : NoEx1 btuple := fun x c fs => by cases x <;> rfl
theorem ints_of {K : Frag} {A : AS} {H : Hp} : ∀ {ds : List D} {vs : List V} {is : List Int}, RepL K A H ds vs → intsOf ds = some is → vs = is.map V.int
  | [], vs, is, h, e => by
    simp only [RepL] at h
    simp only [intsOf, Option.some.injEq] at e
    subst h e
    rfl
  | d :: ds, vs, is, h, e => by
    simp only [RepL] at h
    obtain ⟨v, r, rfl, h1, h2⟩ := h
    cases d with
    | int i =>
      simp only [intsOf] at e
      cases q : intsOf ds with
      | none => rw [q] at e; cases e
      | some js =>
        rw [q] at e
        have e2 : i :: js = is := Option.some.inj e
        subst e2
        have h1' : v = .int i := h1
        rw [h1', ints_of h2 q]
        rfl
    | _ => simp [intsOf] at e
theorem bools_of {K : Frag} {A : AS} {H : Hp} : ∀ {ds : List D} {vs : List V} {is : List Bool}, RepL K A H ds vs → boolsOf ds = some is → vs = is.map V.bl
  | [], vs, is, h, e => by
    simp only [RepL] at h
    simp only [boolsOf, Option.some.injEq] at e
    subst h e
    rfl
  | d :: ds, vs, is, h, e => by
    simp only [RepL] at h
    obtain ⟨v, r, rfl, h1, h2⟩ := h
    cases d with
    | bl i =>
      simp only [boolsOf] at e
      cases q : boolsOf ds with
      | none => rw [q] at e; cases e
      | some js =>
        rw [q] at e
        have e2 : i :: js = is := Option.some.inj e
        subst e2
        have h1' : v = .bl i := h1
        rw [h1', bools_of h2 q]
        rfl
    | _ => simp [boolsOf] at e
theorem v_all (hc : X.calm = true) : CallR X (.builtin "all") (c1 X.K ball) := cimp (cr_all hc) fun xs H Q ⟨x, e0, A, d1, d, h1, ha, e, k⟩ => by
  subst e0
  cases d1 with
  | lst xs =>
    simp only [ball] at e
    split at e
    · rename_i is hi
      simp only [Res.ok.injEq] at e
      subst e
      obtain ⟨a, vs, rfl, q, r⟩ := h1
      have e1 := bools_of r hi
      subst e1
      exact ⟨a, is, rfl, .inl q, k _ H (Same.refl H) (flat_rep rfl _ _)⟩
    · cases e
  | _ => simp [ball] at e
theorem n_all : NoEx1 ball := fun x c fs => by
  cases x <;> simp only [ball] <;> first | (split <;> rfl) | rfl
theorem v_max2 (hc : X.calm = true) : CallR X (.builtin "max") (c2 X.K bmax2) := cimp (call_max2 hc) fun xs H Q ⟨x, y, e0, A, d1, d2, d, h1, h2, ha, e, k⟩ => by
  subst e0
  cases d1 <;> cases d2 <;> simp only [bmax2, Res.ok.injEq, reduceCtorEq] at e
  subst e
  rename_i i j
  exact ⟨i, j, by rw [rep_int h1, rep_int h2], k _ H (Same.refl H) (flat_rep rfl _ _)⟩
theorem v_min2 (hc : X.calm = true) : CallR X (.builtin "min") (c2 X.K bmin2) := cimp (call_min2 hc) fun xs H Q ⟨x, y, e0, A, d1, d2, d, h1, h2, ha, e, k⟩ => by
  subst e0
  cases d1 <;> cases d2 <;> simp only [bmin2, Res.ok.injEq, reduceCtorEq] at e
  subst e
  rename_i i j
  exact ⟨i, j, by rw [rep_int h1, rep_int h2], k _ H (Same.refl H) (flat_rep rfl _ _)⟩
theorem n_max2 : NoEx2 bmax2 := fun x y c fs => by cases x <;> cases y <;> rfl
theorem n_min2 : NoEx2 bmin2 := fun x y c fs => by cases x <;> cases y <;> rfl
/-- list(x) as a new list -/
theorem f_list {x : Str} {p : Pos} (hx : x = "list") (hg : Gl X x) (hm : X.mg x = none) (ha : PE X a (tW X.K W ow ma)) (hs : starEach [a] X.env = [(false, eval a X.env)] := by rfl) : PE X (.Call (.Name x p) [a] [] pos) (tF X.K W ow (un blist ma)) := by
  subst hx
  refine PE.of (pe_callTy call_list_of hg hm (by decide +kernel) (pa_cons ha pa_nil hs) (by decide) (by decide) hs (by rfl)) fun σ H Q ⟨A, H0, O, en, R, q⟩ => ⟨A, H0, O, en, R, (Out.bind q).good fun d q1 v H1 s1 r1 => ?_⟩
  cases d with
  | lst xs =>
    obtain ⟨a, vs, rfl, q, r⟩ := r1
    exact ⟨a, vs, rfl, .inl (.inl q), fun l hl => q1 l _ (s1.free hl) (s1.trans (new_same hl)) ⟨vs, upd_same, RepL.move ⟨fun b hb => hb.elim .inl fun z => by subst z; exact .inr hl, fun b o e _ => new_same hl b o e⟩ _ _ r⟩⟩
  | tup xs =>
    obtain ⟨a, vs, rfl, q, r⟩ := (by simpa only [RepW, Rep] using r1 : ∃ a vs, v = .ref a ∧ SqT X.K H1 a vs ∧ RepL X.K (AO A O) H1 xs vs)
    exact ⟨a, vs, rfl, .inr q, fun l hl => q1 l _ (s1.free hl) (s1.trans (new_same hl)) ⟨vs, upd_same, RepL.move ⟨fun b hb => hb.elim .inl fun z => by subst z; exact .inr hl, fun b o e _ => new_same hl b o e⟩ _ _ r⟩⟩
  | _ => exact q1.elim
end
end Py
/-! What is walked, targets, comprehensions. -/
namespace Py
variable [WI]
open PySem L2
/-- J gives the data xs, one a turn, as long as the heap moves so -/
def Itm (M : AS → Hp → AS → Hp → Prop) (K : Frag) (A : AS) (J : It) (xs : List D) (H : Hp) : Prop := ∀ i A2 H2, M A H A2 H2 →
  (i < xs.length → J.go i H2 ∧ ∀ x H3, J.yld i H2 x H3 → Same H2 H3 ∧ ∃ d, xs[i]? = some d ∧ Rep K A2 H3 d x) ∧ (i = xs.length → J.stop i H2)
/-- .. as it only grows -/
def Gr (A : AS) (H : Hp) (A' : AS) (H' : Hp) : Prop := (∀ a, A' a → A a ∨ H a = none) ∧ Same H H'
theorem Gr.mv {A A' : AS} {H H' : Hp} (h : Gr A H A' H') : Mv A H A' H' := ⟨h.1, fun a o e _ => h.2 a o e⟩
abbrev MvT := AS → Hp → AS → Hp → Prop
theorem Itm.gr {K : Frag} {A : AS} {J : It} {xs : List D} {H : Hp} (h : Itm Mv K A J xs H) : Itm Gr K A J xs H := fun i A2 H2 m => h i A2 H2 m.mv
def tI (M : MvT) (K : Frag) (W : WX) (ow : Ow) (m : IM) : TI := fun σ H R => ∃ A H0 O e, ER K A H0 ow O σ H e ∧
  Out (m e) (fun xs => ∀ J H', Same H H' → Itm M K (AO A O) J xs H' → R J H') (badE K W A O σ H)
theorem PI.of {X : Cx} [CW X] {tg iter : Expr} {t t' : TI} (h : PI X tg iter t) (k : ∀ σ H R, t' σ H R → t σ H R) : PI X tg iter t' := ⟨fun pins s σ H R I q => h.run pins s σ H R I (k σ H R q)⟩
section
variable {X : Cx} [CW X] {W : WX} {A : AS} {H0 : Base} {ow : Ow} {tg a b c e : Expr} {es : List Expr} {m ma mb mc : EM} {am : AM} {pos p : Pos}
/-- a list or a tuple -/
theorem pi_either {l : Expr} {tl : TE} (hl : PE X l tl) : PI X tg l (fun σ H R => tl σ H fun x H1 => ∃ a, x = .ref a ∧ ((∃ xs, SqL X.K H1 a xs ∧ R (Itl X.K a) H1) ∨ ∃ xs, SqT X.K H1 a xs ∧ R (Itt X.K a) H1)) := by
  refine ⟨fun pins s σ H R I h => ?_⟩
  refine thn (hl.run pins s σ H _ I h) fun v s1 ⟨x, H1, I1, r1, q1⟩ => ?_
  obtain ⟨a, e, q⟩ := q1
  subst e
  cases r1
  have fin : ∀ b ∈ [s1.heap.objs.size], FpOk X pins H1 b := fun b hb => by
    have e : b = s1.heap.objs.size := by simpa using hb
    subst e
    exact I1.fpOk (Nat.le_refl _) (I1.hok.fresh (Nat.le_refl _))
  rcases q with ⟨xs, hq, q⟩ | ⟨xs, hq, q⟩
  · obtain ⟨its, rv, p, hz⟩ := I1.list hq
    refine wpAny_pyIter_list p.isList ?_
    exact ⟨s1.heap.objs.size, [s1.heap.objs.size], _, _, H1, rfl, I1.kept (t' := s1.toks) fun b o e => Heap.get?_push_of_some _ e, turn_list a _, ⟨_, Heap.get?_push_size _ rfl, rfl, rfl⟩, fin, q⟩
  · obtain ⟨its, rv, p, hz⟩ := I1.tuple hq
    refine wpAny_pyIter_tuple (show s1.heap.IsTuple a its.toArray from p) ?_
    exact ⟨s1.heap.objs.size, [s1.heap.objs.size], _, _, H1, rfl, I1.kept (t' := s1.toks) fun b o e => Heap.get?_push_of_some _ e, turn_tuple a _, ⟨_, Heap.get?_push_size _ rfl, rfl, rfl⟩, fin, q⟩
theorem itm_tup {K : Frag} {A : AS} {H : Hp} {a : Addr} {ds : List D} {vs : List V} (q : SqT K H a vs) (r : RepL K A H ds vs) : Itm Mv K A (Itt K a) ds H := fun i A2 H2 m => by
  have q2 := SqT.move m q
  have r2 := RepL.move m ds vs r
  refine ⟨fun hi => ?_, fun hi => ⟨vs, q2, by rw [← r.length]; exact Nat.le_of_eq hi.symm⟩⟩
  obtain ⟨v, hv, rv⟩ := r2.get (i := i) (List.getElem?_eq_getElem hi)
  refine ⟨⟨vs, v, q2, hv⟩, fun x H3 ⟨e, k⟩ => ?_⟩
  subst e
  have := k vs q2
  rw [hv] at this
  cases this
  exact ⟨Same.refl _, _, List.getElem?_eq_getElem hi, rv⟩
theorem itm_lst {M : MvT} {K : Frag} {A : AS} {H : Hp} {a : Addr} {ds : List D} {vs : List V} (hM : ∀ A2 H2, M A H A2 H2 → Mv A H A2 H2 ∧ Rd H2 a (.lst vs)) (r : RepL K A H ds vs) : Itm M K A (Itl K a) ds H := fun i A2 H2 m => by
  obtain ⟨mv, rd⟩ := hM A2 H2 m
  have q2 : SqL K H2 a vs := .inl rd
  have r2 := RepL.move mv ds vs r
  refine ⟨fun hi => ?_, fun hi => ⟨vs, q2, by rw [← r.length]; exact Nat.le_of_eq hi.symm⟩⟩
  obtain ⟨v, hv, rv⟩ := r2.get (i := i) (List.getElem?_eq_getElem hi)
  refine ⟨⟨vs, v, q2, hv⟩, fun x H3 ⟨e, k⟩ => ?_⟩
  subst e
  have := k vs q2
  rw [hv] at this
  cases this
  exact ⟨Same.refl _, _, List.getElem?_eq_getElem hi, rv⟩
/-- for a for: a clean list or tuple -/
theorem i_seq (ha : PE X a (tE X.K W ow ma)) : PI X tg a (tI Mv X.K W ow (iseq ma)) :=
  PI.of (pi_either ha) fun σ H R' ⟨A, H0, O, en, R, q⟩ => ⟨A, H0, O, en, R, (Out.bind q).good fun d q1 v H1 s1 r1 => by
    cases d with
    | lst xs =>
      obtain ⟨p, vs, rfl, n, h, r⟩ := (by simpa only [Rep] using r1 : ∃ a vs, v = .ref a ∧ ¬ AO A O a ∧ Rd H1 a (.lst vs) ∧ RepL X.K (AO A O) H1 xs vs)
      exact ⟨p, rfl, .inl ⟨vs, .inl h, q1 _ H1 s1 (itm_lst (fun A2 H2 m => ⟨m, (Rd.move m h n).1⟩) r)⟩⟩
    | tup xs =>
      obtain ⟨p, vs, rfl, h, r⟩ := (by simpa only [Rep] using r1 : ∃ a vs, v = .ref a ∧ SqT X.K H1 a vs ∧ RepL X.K (AO A O) H1 xs vs)
      exact ⟨p, rfl, .inr ⟨vs, h, q1 _ H1 s1 (itm_tup h r)⟩⟩
    | _ => exact q1.elim⟩
theorem i_gr {it : IM} (h : PI X tg a (tI Mv X.K W ow it)) : PI X tg a (tI Gr X.K W ow it) :=
  PI.of h fun σ H R' ⟨A, H0, O, en, R, q⟩ => ⟨A, H0, O, en, R, q.good fun xs k J H' s i => k J H' s i.gr⟩
theorem itm_range {K : Frag} {A : AS} {H : Hp} {lo hi : Int} : Itm Mv K A (Itr lo (hi - lo).toNat) (rngL lo hi) H := fun i A2 H2 m => by
  have hl : (rngL lo hi).length = (hi - lo).toNat := by unfold rngL; simp
  rw [hl]
  refine ⟨fun h => ⟨h, fun x H3 ⟨e1, e2⟩ => ?_⟩, fun h => Nat.le_of_eq h.symm⟩
  subst e1 e2
  refine ⟨Same.refl _, .int (lo + (i : Nat)), ?_, rfl⟩
  unfold rngL
  rw [List.getElem?_map, List.getElem?_range h]
  rfl
theorem nb62 {n : Int} (h : n.natAbs < B62) : -(2 : Int) ^ 62 ≤ n ∧ n < 2 ^ 62 := by
  have e : (2 : Int) ^ 62 = 4611686018427387904 := by decide
  rw [e]
  unfold B62 at h
  omega
theorem rng1_of {σ : L2.St} {H : Hp} {R' : It → Hp → Prop} (h : tI Mv X.K W ow (irng1 ma) σ H R') : iRng1 (tCons (tE X.K W ow ma) tNil) σ H R' := by
  obtain ⟨A, H0, O, en, R, q⟩ := h
  refine ⟨A, H0, O, en, R, (Out.bind q).good fun d q1 v H1 s1 r1 => ?_⟩
  cases d with
  | int n =>
    simp only at q1
    split at q1
    · rename_i z
      have r1' : v = .int n := r1
      subst r1'
      refine ⟨n, rfl, (nb62 z).1, (nb62 z).2, ?_⟩
      have k := q1 (Itr 0 (n - 0).toNat) H1 s1 itm_range
      have e : n - 0 = n := Int.sub_zero n
      rw [e] at k
      exact k
    · exact q1.elim
  | _ => exact q1.elim
theorem i_rng1 (hg : Gl X "range") (hm : X.mg "range" = none) (ha : PE X a (tE X.K W ow ma)) (hs : starEach [a] X.env = [(false, eval a X.env)] := by rfl) : PI X tg (.Call (.Name "range" p) [a] [] pos) (tI Mv X.K W ow (irng1 ma)) :=
  PI.of (pi_range1 hg hm (pa_cons ha pa_nil hs) hs) fun σ H R' h => rng1_of h
/-! ### targets -/
/-- a target: ts are the slots that it sets -/
def tGt (K : Frag) (ow : Ow) (ts : List Nat) (g : GM) : TG := fun v σ H Q => ∃ A H0 O e d e', ER K A H0 ow O σ H e ∧ Rep K (AO A O) H d v ∧ g d e = some e' ∧
  ∀ σ', ER K A H0 ow O σ' H e' → σ'.length = σ.length → (∀ j, j ∉ ts → σ'[j]? = σ[j]?) → Q σ' H
theorem PG.of {tg : Expr} {t t' : TG} (h : PG X tg t) (k : ∀ v σ H Q, t' v σ H Q → t v σ H Q) : PG X tg t' := ⟨fun pins s σ H v u Q I r q => h.run pins s σ H v u Q I r (k v σ H Q q)⟩
theorem g_nm {i : Nat} (h : PG X tg (gName i)) (hi : ow i = false) : PG X tg (tGt X.K ow [i] (gnm i)) :=
  PG.of h fun v σ H Q ⟨A, H0, O, en, d, e', R, r, g, q⟩ => by
    cases g
    exact q _ (R.set hi r) (by simp) fun j hj => by
      have : i ≠ j := fun z => hj (by simp [z])
      rw [List.getElem?_set_ne this]
def tGts (K : Frag) (ow : Ow) (ts : List Nat) (gs : List GM) : TGs := fun vs σ H Q => ∃ A H0 O e ds e', ER K A H0 ow O σ H e ∧ RepL K (AO A O) H ds vs ∧ gtupL gs ds e = some e' ∧
  ∀ σ', ER K A H0 ow O σ' H e' → σ'.length = σ.length → (∀ j, j ∉ ts → σ'[j]? = σ[j]?) → Q σ' H
theorem PGs.of {tg : List Expr} {t t' : TGs} (h : PGs X tg t) (k : ∀ v σ H Q, t' v σ H Q → t v σ H Q) : PGs X tg t' := ⟨fun pins s σ H v u Q I r q => h.run pins s σ H v u Q I r (k v σ H Q q)⟩
theorem gs_nil : PGs X [] (tGts X.K ow [] []) := PGs.of pgs_nil fun vs σ H Q ⟨A, H0, O, en, ds, e', R, r, g, q⟩ => by
  cases ds with
  | nil =>
    simp only [RepL] at r
    subst r
    cases g
    exact ⟨rfl, q σ R rfl fun _ _ => rfl⟩
  | cons d ds => cases g
theorem gs_cons {ts us : List Nat} {g : GM} {gs : List GM} (h1 : PG X e (tGt X.K ow ts g)) (h2 : PGs X es (tGts X.K ow us gs))
    (hs : (assignEach (e :: es) X.env).map (·.2) = assign e X.env :: (assignEach es X.env).map (·.2) := by rfl) : PGs X (e :: es) (tGts X.K ow (ts ++ us) (g :: gs)) :=
  PGs.of (pgs_cons h1 h2 hs) fun vs σ H Q ⟨A, H0, O, en, ds, e', R, r, ge, q⟩ => by
    cases ds with
    | nil => cases ge
    | cons d ds =>
      simp only [RepL] at r
      obtain ⟨v, r', rfl, r1, r2⟩ := r
      simp only [gtupL] at ge
      cases e1 : g d en with
      | none => rw [e1] at ge; cases ge
      | some en1 =>
        rw [e1] at ge
        refine ⟨v, r', rfl, A, H0, O, en, d, en1, R, r1, e1, fun σ1 R1 l1 k1 => ⟨A, H0, O, en1, ds, e', R1, r2, ge, fun σ2 R2 l2 k2 => q σ2 R2 (l2.trans l1) fun j hj => ?_⟩⟩
        rw [k2 j fun z => hj (by simp [z]), k1 j fun z => hj (by simp [z])]
theorem gtupL_len : ∀ {gs : List GM} {ds : List D} {e e' : Env}, gtupL gs ds e = some e' → ds.length = gs.length
  | [], [], _, _, _ => rfl
  | [], _ :: _, _, _, h => by cases h
  | _ :: _, [], _, _, h => by cases h
  | g :: gs, d :: ds, e, e', h => by
    simp only [gtupL] at h
    cases e1 : g d e with
    | none => rw [e1] at h; cases h
    | some e2 =>
      rw [e1] at h
      simp only [List.length_cons]
      rw [gtupL_len (show gtupL gs ds e2 = some e' from h)]
theorem g_tup {ts : List Nat} {gs : List GM} {n k : Nat} (hc : X.calm = true) (h : PGs X es (tGts X.K ow ts gs)) (hn : (assignEach es X.env).length = n := by rfl) (hl : gs.length = n := by rfl)
    (hst : (assignEach es X.env).findIdx? (·.1) = none := by rfl) : PG X (.Tuple es k pos) (tGt X.K ow ts (gtup gs)) :=
  PG.of (pg_tup hc h hn hst) fun v σ H Q ⟨A, H0, O, en, d, e', R, r, g, q⟩ => by
    cases d with
    | tup xs =>
      obtain ⟨a, vs, rfl, h, r⟩ := (by simpa only [Rep] using r : ∃ a vs, v = .ref a ∧ SqT X.K H a vs ∧ RepL X.K (AO A O) H xs vs)
      exact ⟨a, vs, rfl, h, by rw [← r.length, ← hl]; exact gtupL_len g, A, H0, O, en, xs, e', R, r, g, q⟩
    | _ => cases g
/-! ### comprehensions -/
abbrev W0 : WX := fun _ _ _ _ => False
theorem wipe_eq : ∀ {vs : List Nat} {σ σ' : L2.St}, σ'.length = σ.length → (∀ j, j ∉ vs → σ'[j]? = σ[j]?) → L2.wipe σ' vs = L2.wipe σ vs := fun {vs σ σ'} hl h => by
  apply List.ext_getElem?
  intro i
  by_cases hi : i ∈ vs
  · have key : ∀ (us : List Nat) (τ : L2.St), i ∈ us → (L2.wipe τ us)[i]? = if i < τ.length then some none else none := by
      intro us τ
      induction us with
      | nil => intro h; cases h
      | cons u us ih =>
        intro hm
        unfold L2.wipe
        by_cases hu : u = i
        · subst hu
          rw [List.getElem?_set]
          simp only [if_true, L2.wipe_length]
        · rw [List.getElem?_set_ne hu]
          exact ih (by
            rcases List.mem_cons.mp hm with z | z
            · exact absurd z.symm hu
            · exact z)
    rw [key vs σ' hi, key vs σ hi, hl]
  · rw [L2.wipe_out hi, L2.wipe_out hi]
    exact h i hi
theorem compL_drop {f : D → Res (Option D)} {xs : List D} {i : Nat} {G : List D → Prop} {F : String → List (String × D) → Prop} (hi : i < xs.length) (h : Out (compL f (xs.drop i)) G F) :
    Out (f xs[i]) (fun o => Out (compL f (xs.drop (i + 1))) (fun zs => G (match o with | some y => y :: zs | none => zs)) F) F := by
  rw [List.drop_eq_getElem_cons hi] at h
  simp only [compL] at h
  exact (Out.bind h).good fun o h2 => (Out.bind h2).good fun zs h3 => h3
theorem noexc_of {α β : Type} {r : Res α} {k : α → Res β} {good : β → Prop} {bad bad' : String → List (String × D) → Prop} (h : Out (noexc r >>= k) good bad) : Out r (fun a => Out (k a) good bad) bad' := (Out.bind h).noexc
theorem ER.more {K : Frag} {A A' : AS} {H0 : Base} {ow : Ow} {O : OW} {σ : L2.St} {H H' : Hp} {e : Env} (R : ER K A H0 ow O σ H e) (h0 : ∀ a, A' a → H' a ≠ none) (s : Same H H') (hA : ∀ a, A' a → A a ∨ H a = none) (hA2 : ∀ a, A a → A' a) : ER K A' H0 ow O σ H' e := by
  have mv : Mv (AO A O) H (AO A' O) H' := ⟨fun a ha => by
    rcases ha with ha | ha
    · rcases hA a ha with z | z
      · exact .inl (.inl z)
      · exact .inr z
    · exact .inl (.inr ha), fun a o e _ => s a o e⟩
  refine ⟨R.len, h0, R.same.trans s, fun i d h1 h2 => ?_, fun i d h1 h2 => ?_, fun i a h => ⟨(R.fresh i a h).1, ne_none s (R.fresh i a h).2.1, fun z => (hA a z).elim (R.fresh i a h).2.2 (R.fresh i a h).2.1⟩, R.inj, R.pin, R.exq.heap mv fun da fvs e => s _ _ e⟩
  · obtain ⟨v, q, r⟩ := R.vals i d h1 h2
    exact ⟨v, q, Rep.move mv _ _ r⟩
  · obtain ⟨a, q, q2, r⟩ := R.owns i d h1 h2
    exact ⟨a, q, q2, r.move mv (R.kept s q) fun t b z => ⟨z, R.kept s z⟩⟩
/-- [elt for tg in iter if test]; vs: the block's own names, ts: those that the target sets -/
theorem lc_of {K : Frag} {it : IM} {vs ts : List Nat} {g : GM} {t : TM} {elt : EM} (hx : ow.x = none) (hts : ∀ j ∈ ts, j ∈ vs) {σ : L2.St} {H : Hp} {Q : VK} (h : tF K W ow (lcE it vs g t elt) σ H Q) :
    tLc (tI Gr K W ow it) (tGt K ow ts g) (tT K W0 ow t) (tE K W0 ow elt) vs σ H Q := by
  obtain ⟨A, H0, O, en, R, q⟩ := h
  refine ⟨A, H0, O, en, R, (Out.bind q).good fun xs q1 J H1 s1 itm D hD => ?_⟩
  have q0 := noexc_of (bad' := Nev) q1
  by_cases hsz : xs.length ≤ SZ
  case neg =>
    exact (Out.void (q0.good fun ys q2 => by
      unfold chk at q2
      rw [if_neg hsz] at q2
      exact q2)).elim
  have q2 := q0.good fun ys (q2 : Out (chk xs.length (.lst ys)) _ _) => (by
    unfold chk at q2
    rw [if_pos hsz] at q2
    exact fun a H' n s h => q2 a H' (s1.free n) (s1.trans s) h : ∀ (a : Addr) (H' : Hp), H1 a = none → Same H1 H' → OwnAt K (fun b => AO A O b ∨ b = a) H' a (.lst ys) → Q (.ref a) H')
  have hsl : SZ = sizeLine := rfl
  have R1 := R.to s1
  have hAD : ¬ AO A O D := fun z => R1.there D z hD
  generalize hA' : (fun b => A b ∨ b = D : AS) = A'
  have hA1 : ∀ b, AO A' O b → AO A O b ∨ b = D := fun b hb => by
    subst hA'
    rcases hb with (hb | hb) | hb
    · exact .inl (.inl hb)
    · exact .inr hb
    · exact .inl (.inr hb)
  have hA2 : ∀ b, AO A O b ∨ b = D → AO A' O b := fun b hb => by
    subst hA'
    rcases hb with (hb | hb) | hb
    · exact .inl (.inl hb)
    · exact .inr hb
    · exact .inl (.inr hb)
  refine ⟨fun i m H' => m = xs.length - i ∧ i ≤ xs.length ∧ ∃ acc vs', H' D = some (.lst vs') ∧ Same H1 H' ∧ acc.length ≤ i ∧ Out (compL (compF vs g t elt en) (xs.drop i)) (fun zs => ∀ (a : Addr) (H' : Hp), H1 a = none → Same H1 H' → OwnAt K (fun b => AO A O b ∨ b = a) H' a (.lst (acc ++ zs)) → Q (.ref a) H') Nev ∧ RepL K (AO A' O) H' acc vs', ⟨xs.length, by simp, Nat.zero_le _, [], [], upd_same, new_same hD, Nat.le_refl _, q2, by simp [RepL]⟩, ?_⟩
  rintro i m H' ⟨rfl, hi, acc, vs', hH', s2, hal, hz, hr2⟩
  have im := itm i (AO A' O) H' ⟨fun b hb => (hA1 b hb).elim .inl fun z => by rw [z]; exact .inr hD, s2⟩
  by_cases hlt : i < xs.length
  · right
    obtain ⟨hgo, hy⟩ := im.1 hlt
    have hf := compL_drop hlt hz
    refine ⟨hgo, fun H'' => ∃ acc vs', H'' D = some (.lst vs') ∧ Same H1 H'' ∧ acc.length ≤ i + 1 ∧ Out (compL (compF vs g t elt en) (xs.drop (i + 1))) (fun zs => ∀ (a : Addr) (H' : Hp), H1 a = none → Same H1 H' → OwnAt K (fun b => AO A O b ∨ b = a) H' a (.lst (acc ++ zs)) → Q (.ref a) H') Nev ∧ RepL K (AO A' O) H'' acc vs', fun H'' ⟨a1, a2, h1, h2, h3, h4, h6⟩ => ⟨xs.length - (i + 1), by omega, rfl, by omega, a1, a2, h1, h2, h3, h4, h6⟩, fun x H3 y => ?_⟩
    obtain ⟨s3, d, hd, rd⟩ := hy x H3 y
    have hd' : d = xs[i] := by
      rw [List.getElem?_eq_getElem hlt] at hd
      exact (Option.some.inj hd).symm
    subst hd'
    unfold compF at hf
    cases hg : g xs[i] (wipe en vs) with
    | none => rw [hg] at hf; exact hf.elim
    | some e1 =>
      rw [hg, lift_some, bind_ok] at hf
      have s13 := s2.trans s3
      have hD3 : H3 D ≠ none := by
        rw [s3 _ _ hH']
        exact fun z => nomatch z
      have R3 : ER K A' H0 ow O (L2.wipe σ vs) H3 (wipe en vs) := ((R1.more (A' := A') (H' := H3) (fun b hb => by
        rcases hA1 b (.inl hb) with z | z
        · exact (R1.to s13).there b z
        · rw [z]
          exact hD3) s13 (fun b hb => by
        subst hA'
        rcases hb with hb | hb
        · exact .inl hb
        · rw [hb]
          exact .inr hD) (fun b hb => by
        subst hA'
        exact .inl hb))).wipe vs hx
      refine ⟨A', H0, O, wipe en vs, xs[i], e1, R3, rd, hg, fun σ1 Rσ l1 k1 => ⟨?_, ?_⟩⟩
      · have w1 := wipe_eq (vs := vs) (σ := L2.wipe σ vs) (σ' := σ1) l1 fun j hj => k1 j fun z => hj (hts j z)
        rw [w1]
        exact wipe_eq (L2.wipe_length _ _) fun j hj => L2.wipe_out hj
      · refine ⟨A', H0, O, e1, Rσ, (Out.bind hf).imp (fun bb _ hf => ?_) fun _ _ z => z.elim⟩
        intro H4 s4
        cases bb with
        | false =>
            rw [if_neg (by decide)] at hf ⊢
            have s5 : Same H' H4 := s3.trans s4
            exact ⟨acc, vs', s5 _ _ hH', s2.trans s5, by omega, hf, RepL.move (Mv.same s5) _ _ hr2⟩
        | true =>
              rw [if_pos rfl] at hf ⊢
              refine ⟨A', H0, O, e1, Rσ.to s4, (Out.bind hf).imp (fun y' _ hf => ?_) fun _ _ z => z.elim⟩
              intro v5 H5 s5 r5
              have s6 : Same H' H5 := (s3.trans s4).trans s5
              have a1 := s6 _ _ hH'
              have hmv : Mv (AO A' O) H5 (AO A' O) (upd H5 D (.lst (vs' ++ [v5]))) := ⟨fun b hb => .inl hb, fun b o' e1 hb => by
                rw [upd_ne]
                · exact e1
                · intro z
                  subst z
                  rcases hb with hb | hb
                  · exact hb (hA2 _ (.inr rfl))
                  · rw [a1] at e1
                    cases e1
                    exact hb⟩
              have rall := (RepL.move (Mv.same s6) _ _ hr2).append (RepL.one r5)
              have hlen := hr2.length
              refine ⟨vs', a1, by omega, acc ++ [y'], vs' ++ [v5], upd_same, fun b o' e1 => ?_, by simp; omega, Out.good (show Out (compL _ _) _ _ from hf) fun zs h => by rw [List.append_assoc]; exact h, RepL.move hmv _ _ rall⟩
              rw [upd_ne (ne_of_none e1 hD)]
              exact s6 _ _ (s2 _ _ e1)
  · left
    refine ⟨im.2 (by omega), ?_⟩
    have hi2 : i = xs.length := by omega
    subst hi2
    rw [List.drop_length] at hz
    have hz : ∀ (a : Addr) (H' : Hp), H1 a = none → Same H1 H' → OwnAt K (fun b => AO A O b ∨ b = a) H' a (.lst (acc ++ [])) → Q (.ref a) H' := hz
    rw [List.append_nil] at hz
    exact hz D H' hD s2 ⟨vs', hH', RepL.move (Mv.less fun b hb => hA2 b hb) _ _ hr2⟩
end
end Py
/-! Statements. -/
namespace Py
variable [WI]
open PySem L2
section
variable {K : Frag} {A : AS} {H0 : Base} {ow : Ow} {O : OW} {σ : L2.St} {H H' : Hp} {e : Env}
/-- every name gives up what it owns -/
theorem ER.freeze (R : ER K A H0 ow O σ H e) : ER K A ⟨H0.hp, none⟩ ow.off (fun _ => none) σ H e := by
  have mv : Mv (AO A O) H (AO A fun _ => none) H := Mv.less fun b hb => hb.elim .inl fun ⟨_, z⟩ => nomatch z
  refine ⟨R.len, R.a0, R.same, fun i d h1 _ => ?_, fun i d h1 h2 => ?_, fun i a h => (nomatch h), fun i j a h => (nomatch h), fun a h => (nomatch h), fun q hq => ?_⟩
  rotate_right
  · obtain ⟨h1, h2, h3, fvs, h4, h5⟩ := R.exq q hq
    refine ⟨?_, h2, h3, fvs, h4, RepF.move mv _ _ h5⟩
    have hq2 : ow.x = some q := hq
    simp only [Ow.off, hq2, beq_self_eq_true]
  rotate_right
  · simp only [Ow.off] at h2
    cases hq : ow.x with
    | none =>
      rw [hq] at h2
      cases h2
    | some q =>
      rw [hq] at h2
      have hi : i = q.i := by simpa using h2
      subst hi
      exact absurd h1 ((R.exq q hq).no d)
  cases hi : ow i with
  | false =>
    obtain ⟨v, q, r⟩ := R.vals i d h1 hi
    exact ⟨v, q, Rep.move mv _ _ r⟩
  | true =>
    obtain ⟨a, q, q2, r⟩ := R.owns i d h1 hi
    refine ⟨.ref a, q2, ?_⟩
    have na : ¬ AO A (fun _ => none) a := fun z => z.elim (R.fresh _ a q).2.2 fun ⟨_, w⟩ => nomatch w
    exact r.rep mv na fun t b z w => w.elim (R.fresh _ b z).2.2 fun ⟨_, w⟩ => nomatch w
/-- a name's own object changes -/
theorem ER.write (R : ER K A H0 ow O σ H e) {i : Nat} {a : Addr} {o : HO} {d d' : D} (hi : ow i = true) (he : e[i]? = some (some d)) (ha : O (3 * i) = some a) (h : OwnG K (AO A O) (gh O i) (upd H a o) a d') : ER K A H0 ow O σ (upd H a o) (e.set i (some d')) := by
  obtain ⟨a1, q1, q2, r⟩ := R.owns i d he hi
  rw [ha] at q1
  cases q1
  obtain ⟨u0, hu0, hs0, hx0⟩ := r.obj
  have hst : ∀ u, H a = some u → ¬ still u := fun u hu => by
    rw [hu0] at hu
    cases hu
    exact hs0
  have mv : Mv (AO A O) H (AO A O) (upd H a o) := ⟨fun b hb => .inl hb, fun b u e1 hb => by
    rw [upd_ne]
    · exact e1
    · intro z
      subst z
      rcases hb with hb | hb
      · exact hb (.inr ⟨_, ha⟩)
      · exact hst u e1 hb⟩
  have hne : ∀ {H1 : Hp} {b : Addr}, H1 b ≠ none → (upd H1 a o) b ≠ none := fun {H1 b} h => by
    unfold upd
    split
    · exact fun z => nomatch z
    · exact h
  refine ⟨by simp [R.len], fun b hb => hne (R.a0 b hb), fun b u e1 => ?_, fun j dj h1 h2 => ?_, fun j dj h1 h2 => ?_, fun j b hb => ⟨(R.fresh j b hb).1, hne (R.fresh j b hb).2.1, (R.fresh j b hb).2.2⟩, R.inj, R.pin, R.exq.move mv (fun da fvs e1 => (upd_ne fun z => by
    subst z
    rw [hu0] at e1
    exact hx0 _ (Option.some.inj e1)).trans e1) fun j _ n => ⟨rfl, fun dj => by
      have hij : i ≠ j := fun z => by
        subst z
        exact n _ he
      rw [List.getElem?_set_ne hij]
      exact n dj⟩⟩
  · rw [upd_ne]
    · exact R.same b u e1
    · intro z
      rw [z, (R.fresh _ a ha).1] at e1
      cases e1
  · have hj : i ≠ j := fun z => by
      subst z
      rw [hi] at h2
      cases h2
    rw [List.getElem?_set_ne hj] at h1
    obtain ⟨v, q, r⟩ := R.vals j dj h1 h2
    exact ⟨v, q, Rep.move mv _ _ r⟩
  · by_cases hj : i = j
    · subst hj
      have hl := (List.getElem?_eq_some_iff.mp he).1
      rw [List.getElem?_set_self hl] at h1
      cases h1
      exact ⟨a, ha, q2, h⟩
    · rw [List.getElem?_set_ne hj] at h1
      obtain ⟨b, p1, p2, p3⟩ := R.owns j dj h1 h2
      have hba : b ≠ a := fun z => by
        subst z
        have := R.inj _ _ b ha p1
        omega
      refine ⟨b, p1, p2, p3.move mv (upd_ne hba) fun t b' z => ⟨z, upd_ne fun w => ?_⟩⟩
      subst w
      have := R.inj _ _ b' ha z
      cases t <;> simp at this <;> omega
/-- a name gets an object of its own -/
theorem ER.take (R : ER K A H0 ow O σ H e) {i : Nat} {a : Addr} {d : D} (s : Same H H') (hxi : ∀ q, ow.x = some q → q.i ≠ i) (hi : ow i = true) (h0 : 0 < i) (hn : H a = none) (h : OwnAt K (fun b => AO A O b ∨ b = a) H' a d) :
    ER K A H0 ow (fun j => if j = 3 * i then some a else O j) (σ.set i (some (.ref a))) H' (e.set i (some d)) ∧ Mv (AO A O) H (AO A fun j => if j = 3 * i then some a else O j) H' := by
  have sub : ∀ b, AO A (fun j => if j = 3 * i then some a else O j) b → AO A O b ∨ b = a := fun b hb => by
    rcases hb with hb | ⟨j, hb⟩
    · exact .inl (.inl hb)
    · by_cases hj : j = 3 * i
      · simp only [hj, if_true, Option.some.injEq] at hb
        exact .inr hb.symm
      · simp only [hj, if_false] at hb
        exact .inl (.inr ⟨j, hb⟩)
  have mv : Mv (AO A O) H (AO A fun j => if j = 3 * i then some a else O j) H' := ⟨fun b hb => (sub b hb).elim .inl fun z => by rw [z]; exact .inr hn, fun b o e1 _ => s b o e1⟩
  have mv2 : Mv (fun b => AO A O b ∨ b = a) H' (AO A fun j => if j = 3 * i then some a else O j) H' := Mv.less sub
  have ha : H' a ≠ none := by
    obtain ⟨u, hu, _, _⟩ := h.obj
    rw [hu]
    exact fun z => nomatch z
  refine ⟨⟨by simp [R.len], fun b hb => ne_none s (R.a0 b hb), R.same.trans s, fun j dj h1 h2 => ?_, fun j dj h1 h2 => ?_, fun j b hb => ?_, fun j k b hj hk => ?_, fun b hb => ?_, fun q hq => ?_⟩, mv⟩
  rotate_right
  · obtain ⟨z1, z2, z3, fvs, z4, z5⟩ := R.exq q hq
    have hne : i ≠ q.i := fun z => hxi q hq z.symm
    refine ⟨z1, ?_, ?_, fvs, s _ _ z4, RepF.move mv _ _ z5⟩ <;> rw [List.getElem?_set_ne hne]
    · exact z2
    · exact z3
  · have hj : i ≠ j := fun z => by
      subst z
      rw [hi] at h2
      cases h2
    rw [List.getElem?_set_ne hj] at h1
    obtain ⟨v, q, r⟩ := R.vals j dj h1 h2
    exact ⟨v, by rw [List.getElem?_set_ne hj]; exact q, Rep.move mv _ _ r⟩
  · by_cases hj : i = j
    · subst hj
      have hl : i < e.length := by
        have := (List.getElem?_eq_some_iff.mp h1).1
        simpa using this
      rw [List.getElem?_set_self hl] at h1
      cases h1
      exact ⟨a, by simp, List.getElem?_set_self (by rw [R.len]; exact hl), (h.move mv2 rfl).g⟩
    · rw [List.getElem?_set_ne hj] at h1
      obtain ⟨b, p1, p2, p3⟩ := R.owns j dj h1 h2
      have hj' : ¬ 3 * j = 3 * i := fun z => hj (by omega)
      refine ⟨b, by simp only [hj', if_false]; exact p1, by rw [List.getElem?_set_ne hj]; exact p2, p3.move mv (R.kept s p1) fun t b' z => ⟨?_, R.kept s z⟩⟩
      have hj2 : ¬ (3 * j + if t then 2 else 1) = 3 * i := by cases t <;> simp <;> omega
      exact (if_neg hj2).trans z
  · by_cases hj : j = 3 * i
    · simp only [hj, if_true, Option.some.injEq] at hb
      subst hb
      refine ⟨?_, ha, fun z => R.a0 a z hn⟩
      cases z : H0.hp a with
      | none => rfl
      | some o =>
        rw [R.same a o z] at hn
        cases hn
    · simp only [hj, if_false] at hb
      exact ⟨(R.fresh j b hb).1, ne_none s (R.fresh j b hb).2.1, (R.fresh j b hb).2.2⟩
  · have old : ∀ l b, O l = some b → b ≠ a := fun l b hl z => by
      rw [z] at hl
      exact (R.fresh l a hl).2.1 hn
    by_cases h1 : j = 3 * i
    · by_cases h2 : k = 3 * i
      · rw [h1, h2]
      · simp only [h1, if_true, Option.some.injEq] at hj
        simp only [h2, if_false] at hk
        exact absurd hj.symm (old k b hk)
    · by_cases h2 : k = 3 * i
      · simp only [h2, if_true, Option.some.injEq] at hk
        simp only [h1, if_false] at hj
        exact absurd hk.symm (old j b hj)
      · simp only [h1, if_false] at hj
        simp only [h2, if_false] at hk
        exact R.inj j k b hj hk
  · have h1 : ¬ 0 = 3 * i := fun z => by omega
    simp only [h1, if_false]
    exact R.pin b hb
end
/-- what is given back; fr: an object that is new and its caller's own -/
inductive Rm where
  | val | own | lent | two
/-- what an object at a and its inner ones take -/
def gA (A : AS) (a : Addr) (G : GW) : AS := fun z => (A z ∨ z = a) ∨ ∃ t, G t = some z
/-- the inner objects of the object at a: they are there, P is true of them -/
structure Inn (A : AS) (P : Addr → Prop) (H' : Hp) (a : Addr) (G : GW) : Prop where
  new : ∀ t b, G t = some b → P b ∧ H' b ≠ none ∧ ¬ A b ∧ b ≠ a
  inj : ∀ t t' b, G t = some b → G t' = some b → t = t'
def RetOk (fr : Rm) (K : Frag) (A : AS) (H0 : Base) (H' : Hp) (d : D) (v : V) : Prop := match fr with
  | .val => Rep K A H' d v
  | .own => ∃ a, v = .ref a ∧ H0.hp a = none ∧ OwnAt K (fun b => A b ∨ b = a) H' a d
  | .lent => ∃ r l, d = .tup [r, l] ∧ ∀ a, H0.px = some a → ∃ G, Inn A (fun b => H0.hp b = none) H' a G ∧ Rep K (gA A a G) H' r v ∧ OwnG K (gA A a G) G H' a l
  | .two => ∃ a b c x y, v = .ref a ∧ d = .tup [x, y] ∧ SqT K H' a [.ref b, .ref c] ∧ b ≠ c ∧ H0.hp b = none ∧ H0.hp c = none ∧ OwnAt K (fun z => (A z ∨ z = b) ∨ z = c) H' b x ∧ OwnAt K (fun z => (A z ∨ z = b) ∨ z = c) H' c y
/-- what must hold behind a statement; oN: who owns behind it, oB: who owns at a break, a continue -/
def EndOk3 (fr : Rm) (K : Frag) (A : AS) (H0 : Base) (oN oB : Ow) (O : OW) (H : Hp) (D : Ends) : Fl → Prop
  | .next e' => ∀ O' σ' H', ER K A H0 oN O' σ' H' e' → Mv (AO A O) H (AO A O') H' → D.nx σ' H'
  | .ret d => ∀ v H', Same H0.hp H' → RetOk fr K A H0 H' d v → D.rt v H'
  | .brk e' => ∀ O' σ' H', ER K A H0 oB O' σ' H' e' → Mv (AO A O) H (AO A O') H' → D.bk σ' H'
  | .cnt e' => ∀ O' σ' H', ER K A H0 oB O' σ' H' e' → Mv (AO A O) H (AO A O') H' → D.ct σ' H'
abbrev EndOk (fr : Rm) (K : Frag) (A : AS) (H0 : Base) (ow : Ow) (O : OW) (H : Hp) (D : Ends) : Fl → Prop := EndOk3 fr K A H0 ow ow O H D
theorem EndOk3.to {fr : Rm} {K : Frag} {A : AS} {H0 : Base} {oN oB : Ow} {O O1 : OW} {H H1 : Hp} {D : Ends} (m : Mv (AO A O) H (AO A O1) H1) : ∀ {f : Fl}, EndOk3 fr K A H0 oN oB O H D f → EndOk3 fr K A H0 oN oB O1 H1 D f
  | .next _, h => fun O' σ' H' R n => h O' σ' H' R (m.trans n)
  | .ret _, h => h
  | .brk _, h => fun O' σ' H' R n => h O' σ' H' R (m.trans n)
  | .cnt _, h => fun O' σ' H' R n => h O' σ' H' R (m.trans n)
def badS (K : Frag) (W : WX) (A : AS) (H0 : Base) (c : String) (fs : List (String × D)) : Prop :=
  ∀ σ' da H' fvs, Same H0.hp H' → H' da = some (.xd fvs) → RepF K A H' fs fvs → W (.ref (ca K c)) (some da) σ' H'
theorem badS.e {K : Frag} {W : WX} {A : AS} {H0 : Base} {ow : Ow} {O : OW} {σ : L2.St} {H : Hp} {e : Env} (R : ER K A H0 ow O σ H e) {c : String} {fs : List (String × D)} (h : badS K W A H0 c fs) : badE K W A O σ H c fs := fun da H' fvs s q r =>
  h σ da H' fvs (R.same.trans s) q (RepF.move (Mv.less fun b => .inl) _ _ r)
def tS3 (fr : Rm) (K : Frag) (W : WX) (ow oN oB : Ow) (m : SM) : TS := fun D σ H => ∃ A H0 O e, ER K A H0 ow O σ H e ∧ Out (m e) (EndOk3 fr K A H0 oN oB O H D) (badS K W A H0)
abbrev tS (fr : Rm) (K : Frag) (W : WX) (ow : Ow) (m : SM) : TS := tS3 fr K W ow ow ow m
section
variable {fr : Rm} {X : Cx} [CW X] {W : WX} {ow : Ow} {a b c e : Expr} {es : List Expr} {m ma mb mc : EM} {st : Stmt} {rest body orelse : List Stmt} {u v : SM} {t : TM} {pos : Pos}
theorem Out.se {α : Type} {K : Frag} {W : WX} {A : AS} {H0 : Base} {ow : Ow} {O : OW} {σ : L2.St} {H : Hp} {e : Env} (R : ER K A H0 ow O σ H e) {r : Res α} {good : α → Prop} (h : Out r good (badS K W A H0)) : Out r good (badE K W A O σ H) := h.imp (fun _ _ x => x) fun _ _ x => x.e R
/-! ### blocks -/
theorem ss_nil : PSs X [] (tS fr X.K W ow skip) := PSs.of pss_nil fun D σ H ⟨A, H0, O, en, R, q⟩ => q O σ H R Mv.refl
theorem ss_one (h : PS X st (tS fr X.K W ow u)) : PSs X [st] (tS fr X.K W ow u) := pss_one h
theorem ss_cons (h : PS X st (tS fr X.K W ow u)) (k : PSs X rest (tS fr X.K W ow v)) : PSs X (st :: rest) (tS fr X.K W ow (seq u v)) :=
  PSs.of (pss_cons h k) fun D σ H ⟨A, H0, O, en, R, q⟩ => ⟨A, H0, O, en, R, (Out.bind q).good fun f q1 => by
    cases f with
    | next e' => exact fun O' σ' H' R' mv => ⟨A, H0, O', e', R', q1.good fun f q2 => q2.to mv⟩
    | ret d => exact q1
    | brk e' => exact q1
    | cnt e' => exact q1⟩
/-! ### assignments -/
theorem s_set {i : Nat} (h : PS X st (tAsg (tE X.K W ow m) (gName i))) (hi : ow i = false) : PS X st (tS fr X.K W ow (asg (gnm i) m)) :=
  PS.of h fun D σ H ⟨A, H0, O, en, R, q⟩ => ⟨A, H0, O, en, R, ((Out.bind q).se R).good fun d q1 v H1 s1 r1 => q1 O _ H1 ((R.to s1).set hi r1) (Mv.same s1)⟩
theorem s_gen {ts : List Nat} {g : GM} (h : PS X st (tAsg (tE X.K W ow m) (tGt X.K ow ts g))) : PS X st (tS fr X.K W ow (asg g m)) :=
  PS.of h fun D σ H ⟨A, H0, O, en, R, q⟩ => ⟨A, H0, O, en, R, ((Out.bind q).se R).good fun d q1 v H1 s1 r1 => by
    cases hg : g d en with
    | none =>
      rw [hg] at q1
      exact q1.elim
    | some e' =>
      rw [hg] at q1
      exact ⟨A, H0, O, en, d, e', R.to s1, r1, hg, fun σ' R' _ _ => q1 O σ' H1 R' (Mv.same s1)⟩⟩
theorem s_ret (h : PE X a (tE X.K W ow.off m)) : PS X (.Return (some a) pos) (tS .val X.K W ow (ret m)) :=
  PS.of (ps_ret h) fun D σ H ⟨A, H0, O, en, R, q⟩ => ⟨A, _, _, en, R.freeze, ((Out.bind (show Out (ret m en) _ (badS X.K W A ⟨H0.hp, none⟩) from q)).se R.freeze).good fun d q1 v H1 s1 r1 =>
    q1 v H1 (R.same.trans s1) (Rep.move (Mv.less fun b => .inl) _ _ r1)⟩
theorem s_if (hc : PT X a (tT X.K W ow t)) (hb : PSs X body (tS fr X.K W ow u)) (ho : PSs X orelse (tS fr X.K W ow v)) : PS X (.If a body orelse pos) (tS fr X.K W ow (ite t u v)) :=
  PS.of (ps_if hc hb ho) fun D σ H ⟨A, H0, O, en, R, q⟩ => ⟨A, H0, O, en, R, ((Out.bind q).se R).good fun k q1 H1 s1 => by
    cases k with
    | true =>
      rw [if_pos rfl] at q1 ⊢
      exact ⟨A, H0, O, en, R.to s1, q1.good fun f q2 => q2.to (Mv.same s1)⟩
    | false =>
      rw [if_neg (by decide)] at q1 ⊢
      exact ⟨A, H0, O, en, R.to s1, q1.good fun f q2 => q2.to (Mv.same s1)⟩⟩
/-! ### loops -/
theorem for_of {it : IM} {ts : List Nat} {g : GM} {D : Ends} {σ : L2.St} {H : Hp} (h : tS fr X.K W ow (for_ it g u) D σ H) : tFor (tI Mv X.K W ow it) (tGt X.K ow ts g) (tS fr X.K W ow u) D σ H := by
  obtain ⟨A, H0, O, en, R, q⟩ := h
  exact ⟨A, H0, O, en, R, ((Out.bind q).se R).good fun xs q1 J H1 s1 itm => by
    refine ⟨fun i m σ' H' => m = xs.length - i ∧ i ≤ xs.length ∧ ∃ O' e', ER X.K A H0 ow O' σ' H' e' ∧ Mv (AO A O) H1 (AO A O') H' ∧ Out (forL (forB g u) (xs.drop i) e') (EndOk fr X.K A H0 ow O H1 D) (badS X.K W A H0),
      ⟨xs.length, by simp, Nat.zero_le _, O, en, R.to s1, Mv.refl, q1.good fun f q2 => q2.to (Mv.same s1)⟩, ?_⟩
    rintro i m σ' H' ⟨rfl, hi, O', e', R', mv, q2⟩
    have im := itm i (AO A O') H' mv
    by_cases hlt : i < xs.length
    · right
      obtain ⟨hgo, hy⟩ := im.1 hlt
      refine ⟨hgo, fun σ' H' => ∃ O' e', ER X.K A H0 ow O' σ' H' e' ∧ Mv (AO A O) H1 (AO A O') H' ∧ Out (forL (forB g u) (xs.drop (i + 1)) e') (EndOk fr X.K A H0 ow O H1 D) (badS X.K W A H0), fun σ2 H2 ⟨a1, a2, a3⟩ => ⟨xs.length - (i + 1), by omega, rfl, by omega, a1, a2, a3⟩, fun x H3 y => ?_⟩
      obtain ⟨s3, d, hd, rd⟩ := hy x H3 y
      have hd' : d = xs[i] := by
        rw [List.getElem?_eq_getElem hlt] at hd
        exact (Option.some.inj hd).symm
      subst hd'
      rw [List.drop_eq_getElem_cons hlt] at q2
      simp only [forL, forB] at q2
      cases hg' : g xs[i] e' with
      | none =>
        rw [hg'] at q2
        exact q2.elim
      | some e2 =>
        rw [hg', lift_some, bind_ok] at q2
        have mv3 : Mv (AO A O) H1 (AO A O') H3 := mv.trans (Mv.same s3)
        refine ⟨A, H0, O', e', xs[i], e2, R'.to s3, rd, hg', fun σ2 R2 _ _ => ⟨A, H0, O', e2, R2, (Out.bind q2).good fun f q2 => ?_⟩⟩
        · cases f with
          | next e3 => exact fun O3 σ3 H4 R3 m3 => ⟨O3, e3, R3, mv3.trans m3, q2⟩
          | cnt e3 => exact fun O3 σ3 H4 R3 m3 => ⟨O3, e3, R3, mv3.trans m3, q2⟩
          | brk e3 =>
            have q3 : EndOk fr X.K A H0 ow O H1 D (.next e3) := q2
            exact fun O3 σ3 H4 R3 m3 => q3 O3 σ3 H4 R3 (mv3.trans m3)
          | ret d => exact q2
    · left
      have hi2 : i = xs.length := by omega
      subst hi2
      rw [List.drop_length] at q2
      have q3 : EndOk fr X.K A H0 ow O H1 D (.next e') := q2
      exact ⟨im.2 rfl, q3 O' σ' H' R' mv⟩⟩
theorem s_for {tg iter : Expr} {it : IM} {ts : List Nat} {g : GM} (hp : PassesOwn (model X.prog X.w) X.A X.env X.xe) (hc : X.calm = true) (hi : PI X tg iter (tI Mv X.K W ow it)) (hg : PG X tg (tGt X.K ow ts g)) (hb : PSs X body (tS fr X.K W ow u))
    (hs : ∀ x, foldedSetIterable iter X.env x = pure x := by intro _; rfl) : PS X (.For tg iter body [] pos) (tS fr X.K W ow (for_ it g u)) :=
  PS.of (ps_for hp hc hi hg hb hs) fun D σ H h => for_of h
theorem s_while (hp : PassesOwn (model X.prog X.w) X.A X.env X.xe) (hc : PT X a (tT X.K W ow t)) (hb : PSs X body (tS fr X.K W ow u)) : PS X (.While a body [] pos) (tS fr X.K W ow (while_ t u)) :=
  PS.of (ps_while hp hc hb) fun D σ H ⟨A, H0, O, en, R, q⟩ => by
    refine ⟨fun k σ' H' => ∃ O' e', ER X.K A H0 ow O' σ' H' e' ∧ Mv (AO A O) H (AO A O') H' ∧ Out (whileL t u k e') (EndOk fr X.K A H0 ow O H D) (badS X.K W A H0), ⟨FUEL, O, en, R, Mv.refl, q⟩, ?_⟩
    rintro k σ' H' ⟨O', e', R', mv, q1⟩
    cases k with
    | zero => exact q1.elim
    | succ k =>
      refine ⟨A, H0, O', e', R', ((Out.bind q1).se R').good fun bb q2 H2 s2 => ?_⟩
      have R2 := R'.to s2
      have mv2 := mv.trans (Mv.same (A := AO A O') s2)
      cases bb with
      | false =>
        rw [if_neg (by decide)] at q2
        dsimp only
        rw [if_neg (by decide)]
        have q3 : EndOk fr X.K A H0 ow O H D (.next e') := q2
        exact q3 O' σ' H2 R2 mv2
      | true =>
        rw [if_pos rfl] at q2
        dsimp only
        rw [if_pos rfl]
        refine ⟨fun σ' H' => ∃ O' e', ER X.K A H0 ow O' σ' H' e' ∧ Mv (AO A O) H (AO A O') H' ∧ Out (whileL t u k e') (EndOk fr X.K A H0 ow O H D) (badS X.K W A H0), fun σ3 H3 a => ⟨k, Nat.lt_succ_self _, a⟩, A, H0, O', e', R2, (Out.bind q2).good fun f q2 => ?_⟩
        · cases f with
          | next e3 => exact fun O3 σ3 H4 R3 m3 => ⟨O3, e3, R3, mv2.trans m3, q2⟩
          | cnt e3 => exact fun O3 σ3 H4 R3 m3 => ⟨O3, e3, R3, mv2.trans m3, q2⟩
          | brk e3 =>
            have q3 : EndOk fr X.K A H0 ow O H D (.next e3) := q2
            exact fun O3 σ3 H4 R3 m3 => q3 O3 σ3 H4 R3 (mv2.trans m3)
          | ret d => exact q2
/-! ### a name's own list, object -/
theorem var_ok {α : Type} {i : Nat} {en : Env} {k : D → Res α} {good : α → Prop} {bad : String → List (String × D) → Prop} (h : Out (var i en >>= k) good bad) : ∃ d, en[i]? = some (some d) ∧ Out (k d) good bad := by
  unfold var at h
  split at h
  · rename_i d hd
    exact ⟨d, hd, h⟩
  · exact h.elim
theorem sqL {K : Frag} {H : Hp} {a : Addr} {vs : List V} (h : H a = some (.lst vs)) : L2.tyV K "list" (.ref a) H := .inl ⟨rfl, vs, .inl (.inl h)⟩
theorem own_mv {K : Frag} {A : AS} {H0 : Base} {ow : Ow} {O : OW} {σ : L2.St} {H : Hp} {en : Env} (R : ER K A H0 ow O σ H en) {i : Nat} {a : Addr} (p1 : O (3 * i) = some a) {u o : HO} (e : H a = some u) (hs : ¬ still u) : Mv (AO A O) H (AO A O) (upd H a o) :=
  ⟨fun b hb => .inl hb, fun b o e3 hb => by
    rw [upd_ne]
    · exact e3
    · intro z
      subst z
      rcases hb with hb | hb
      · exact hb (.inr ⟨_, p1⟩)
      · rw [e] at e3
        cases e3
        exact hs hb⟩
/-- x.append(e) -/
theorem s_app {i : Nat} (h : PS X st (tDrop (tBM X.K "list" rAppend (tVar i) (tCons (tE X.K W ow m) tNil)))) (hi : ow i = true) : PS X st (tS fr X.K W ow (app i m)) :=
  PS.of h fun D σ H ⟨A, H0, O, en, R, q⟩ => by
    obtain ⟨l, hl, q1⟩ := var_ok q
    obtain ⟨a, p1, p2, p3⟩ := R.owns i l hl hi
    cases l with
    | lst ds =>
      obtain ⟨vs, e1, r1⟩ := p3
      refine ⟨.ref a, p2, sqL e1, A, H0, O, en, R, ((Out.bind q1).se R).good fun d q2 v H1 s1 r2 => ?_⟩
      split at q2
      · rename_i hz
        have e2 := s1 _ _ e1
        refine ⟨a, vs, v, rfl, rfl, e2, by rw [← r1.length]; exact hz, ?_⟩
        have R1 := R.to s1
        have mv := own_mv R1 p1 (o := .lst (vs ++ [v])) e2 fun z => z
        have R2 := R1.write (o := .lst (vs ++ [v])) (d' := .lst (ds ++ [d])) hi hl p1 ⟨_, upd_same, RepL.move mv _ _ ((RepL.move (Mv.same s1) _ _ r1).append (RepL.one r2))⟩
        exact q2 O σ _ R2 ((Mv.same s1).trans mv)
      · exact q2.elim
    | _ => exact q1.elim
/-- x[j] = e -/
theorem s_setL {i : Nat} {mj : EM} (h : PS X st (tAsg (tE X.K W ow m) (gSub (tVar i) (tE X.K W ow mj) (rSetX X.K)))) (hi : ow i = true) : PS X st (tS fr X.K W ow (setL i mj m)) :=
  PS.of h fun D σ H ⟨A, H0, O, en, R, q⟩ => by
    obtain ⟨l, hl, q1⟩ := var_ok q
    obtain ⟨a, p1, p2, p3⟩ := R.owns i l hl hi
    cases l with
    | lst ds =>
      obtain ⟨vs, e1, r1⟩ := p3
      refine ⟨A, H0, O, en, R, ((Out.bind q1).se R).good fun d q2 v H1 s1 r2 => ⟨.ref a, p2, A, H0, O, en, R.to s1, ((Out.bind q2).se (R.to s1)).good fun k q3 w H2 s2 r3 => ?_⟩⟩
      cases k with
      | int z =>
        simp only at q3
        split at q3
        · rename_i n hn
          have s12 := s1.trans s2
          have e2 := s12 _ _ e1
          have r3' : w = .int z := r3
          subst r3'
          refine .inl ⟨a, vs, z, n, rfl, rfl, e2, by rw [← r1.length]; exact hn, ?_⟩
          have R2 := R.to s12
          have mv := own_mv R2 p1 (o := .lst (vs.set n v)) e2 fun z => z
          have R3 := R2.write (o := .lst (vs.set n v)) (d' := .lst (ds.set n d)) hi hl p1 ⟨_, upd_same, RepL.move mv _ _ (RepL.set (Rep.move (Mv.same s2) _ _ r2) n (RepL.move (Mv.same s12) _ _ r1))⟩
          exact q3 O σ _ R3 ((Mv.same s12).trans mv)
        · exact q3.elim
      | _ => exact q3.elim
    | dic t kvs =>
      refine ⟨A, H0, O, en, R, ((Out.bind q1).se R).good fun d q2 v H1 s1 r2 => ⟨.ref a, p2, A, H0, O, en, R.to s1, ((Out.bind q2).se (R.to s1)).good fun k q3 w H2 s2 r3 => ?_⟩⟩
      split at q3
      · rename_i hk
        rw [Bool.and_eq_true, decide_eq_true_eq] at hk
        have s12 := s1.trans s2
        have R2 := R.to s12
        obtain ⟨a', p1', _, p3'⟩ := R2.owns i _ hl hi
        rw [p1] at p1'
        cases p1'
        refine .inr ⟨AO A O, t, kvs, k, d, a, rfl, .inr ⟨_, p1⟩, p3', r3, Rep.move (Mv.same s2) _ _ r2, hk.1, hk.2, fun ob g => ?_⟩
        obtain ⟨u0, hu0, hs0, _⟩ := OwnG.obj (G := fun _ => none) (d := .dic t kvs) p3'
        have mv := own_mv R2 p1 (o := ob) hu0 hs0
        have R3 := R2.write (o := ob) (d' := .dic t (putD k d kvs)) hi hl p1 g
        exact q3 O σ _ R3 ((Mv.same s12).trans mv)
      · exact q3.elim
    | _ => exact q1.elim
/-- self.f = e -/
theorem s_setF {i : Nat} {cs : List String} {f : String} (F : ∀ c ∈ cs, Cls X.K (ca X.K c) ∧ NoAttr X.K (ca X.K c) (Str.ofString f)) (h : PS X st (sFld X.K (tVar i) (tE X.K W ow m) (Str.ofString f))) (hi : ow i = true) (hn : (cs.all fun c => !inn c f) = true := by decide) : PS X st (tS fr X.K W ow (setF i cs f m)) :=
  PS.of h fun D σ H ⟨A, H0, O, en, R, q⟩ => by
    obtain ⟨l, hl, q1⟩ := var_ok q
    obtain ⟨a, p1, p2, p3⟩ := R.owns i l hl hi
    cases l with
    | ins c fs =>
      obtain ⟨dx, fvs, e1, r1⟩ := p3
      simp only at q1
      split at q1
      · rename_i hz
        obtain ⟨f1, f2⟩ := F c (by simpa using hz.1)
        have hni : inn c f = false := by simpa using List.all_eq_true.mp hn c (by simpa using hz.1)
        refine ⟨A, H0, O, en, R, ((Out.bind q1).se R).good fun d q2 v H1 s1 r2 => ⟨.ref a, p2, a, _, dx, fvs, rfl, s1 _ _ e1, f1, f2, by rw [← r1.length]; exact hz.2, ?_⟩⟩
        have R1 := R.to s1
        have mv := own_mv R1 p1 (o := .ins (ca X.K c) dx (L2.putF (Str.ofString f) v fvs)) (s1 _ _ e1) fun z => z
        have R2 := R1.write (o := .ins (ca X.K c) dx (L2.putF (Str.ofString f) v fvs)) (d' := .ins c (putF f d fs)) hi hl p1 ⟨dx, _, upd_same, (RepI.put (by rw [hni]; exact r2) (r1.move (Mv.same s1) fun t b z => ⟨z, R.kept s1 z⟩)).move mv fun t b z => ⟨z, upd_ne fun w => by
          subst w
          have := R.inj _ _ b p1 z
          cases t <;> simp at this⟩⟩
        exact q2 O σ _ R2 ((Mv.same s1).trans mv)
      · exact q1.elim
    | _ => exact q1.elim
end
end Py
/-! Calls, defs, classes. -/
namespace Py
variable [WI]
open PySem L2
instance cw_blk {X : Cx} [h : CW X] {s : Shared} {H : Hp} {scope : Scope} {cenv : PySem.Env} {fp : List Addr} : CW (X.blk s H scope cenv fp) := ⟨h.eq⟩
instance cw_of {CX : CXT} {P : Program} {w : World} [h : HW w] {K : Frag} {mg : Str → Option Value} {base : Heap} {N : List Str} {qual : Str} {scope : Scope} {f : Addr} {cd : Value} {A : Around} {outer : List PySem.Env} {s : Shared} {H : Hp} {E : XK} : CW (cxOf CX P w K mg base N qual scope f cd A outer s H E) := ⟨h.eq⟩
instance cw_nox {X : Cx} [h : CW X] : CW X.nox := ⟨h.eq⟩
instance hw_of {X : Cx} [h : CW X] : HW X.w := ⟨h.eq⟩
instance cw_suite {X : Cx} [h : CW X] {a : Addr} {pn : List (Addr × Obj)} : CW (X.suite a pn) := ⟨h.eq⟩
theorem takes0N {X : Cx} [CW X] : L2N.Takes X (fun _ _ _ _ => False) := fun u s' x => by
  obtain ⟨a, B, sI, pins, σ, H, cls, d, x1, x2, x3, x4, x5, x6, x7, x8, z⟩ := x
  exact z.elim
theorem passLN {X : Cx} [CW X] : Passes (L2N.CX X.prog X.w) X E0 := fun pins σ H s e s' I h => by
  obtain ⟨a, B, H', cls, d, x1, x2, x3, x4, x5, x6, x7, z⟩ := h
  exact z.elim
/-- where one stands: k calls deep there is room -/
structure Ctx (X : Cx) (W : WX) (k : Nat) : Prop where
  calm : X.calm = true
  tk : L2N.Takes X W
  po : PassesOwn (model X.prog X.w) X.A X.env X.xe
  hr : Room k X.A
  nd : X.N.Nodup
theorem Ctx.blk {X : Cx} [CW X] {W : WX} {k : Nat} (c : Ctx X W k) (s : Shared) (H : Hp) (scope : Scope) (cenv : PySem.Env) (fp : List Addr) : Ctx (X.blk s H scope cenv fp) W0 k := ⟨c.calm, takes0N, PassesOwn.never, c.hr, c.nd⟩
/-- what a def asks of its number of arguments -/
structure Ar (n : Nat) (fm : List D → Res D) : Prop where
  st : ∀ ds, ds.length ≠ n → fm ds = .stuck
theorem Ar.len {n : Nat} {fm : List D → Res D} {ds : List D} {good : D → Prop} {bad : String → List (String × D) → Prop} (h : Ar n fm) (q : Out (fm ds) good bad) : ds.length = n := by
  by_cases hl : ds.length = n
  · exact hl
  · rw [h.st ds hl] at q
    exact q.elim
theorem ar_fn {p n : Nat} {body : SM} : Ar p (fn p n body) := ⟨fun ds h => if_neg h⟩
/-- a def that computes m of its arguments -/
def spM (K : Frag) (p : Nat) (m : List D → Res D) : Sp := fun vs H Q E => ∃ A ds, RepL K A H ds vs ∧ ds.length = p ∧ (∀ a, A a → H a ≠ none) ∧
  Out (m ds) (fun d => ∀ v H', Same H H' → Rep K A H' d v → Q v H') (fun c fs => ∀ da H' fvs, Same H H' → H' da = some (.xd fvs) → RepF K A H' fs fvs → E (.ref (ca K c)) (some da) H')
/-- an __init__ that makes m of the arguments behind self -/
def spI (K : Frag) (p : Nat) (cls : String) (m : List D → Res D) : Sp := fun vs H Q E => ∃ A x dx H1 ds ws, vs = .ref x :: ws ∧ H = upd (upd H1 dx (.own x)) x (.ins (ca K cls) dx []) ∧ H1 x = none ∧ H1 dx = none ∧ dx ≠ x ∧ RepL K A H1 ds ws ∧ ds.length + 1 = p ∧ (∀ a, A a → H1 a ≠ none) ∧
  Out (m ds) (fun d => ∀ H', Same H1 H' → Rep K A H' d (.ref x) → Q .non H') (fun c fs => ∀ da H' fvs, Same H1 H' → H' da = some (.xd fvs) → RepF K A H' fs fvs → E (.ref (ca K c)) (some da) H')
section
variable {X : Cx} [CW X] {W : WX} {ow : Ow} {a b c e : Expr} {es : List Expr} {m ma mb mc : EM} {am : AM} {pos p : Pos} {k j n : Nat} {f C : Addr} {fd : FuncData} {ps : List Str} {x : Str} {fm : List D → Res D}
theorem call_of {E : St → XK} (hE : ∀ σ cls d H, W cls d σ H → E σ cls d H) {σ : L2.St} {H : Hp} {Q : VK} (h : tE X.K W ow (call fm am) σ H Q) (hn : Ar n fm) : tCallSD (spM X.K n fm) [] E (aE X.K W ow am) σ H Q := by
  obtain ⟨A, H0, O, en, R, q⟩ := h
  refine ⟨A, H0, O, en, R, (Out.bind q).good fun ds q1 vs H1 s1 r1 => ?_⟩
  dsimp only
  rw [List.append_nil]
  exact ⟨AO A O, ds, paired_rep r1, hn.len q1, (R.to s1).there, q1.imp (fun d _ k v H2 s2 r2 => k v H2 (s1.trans s2) r2) fun c fs z da H2 fvs s2 q2 r2 => hE _ _ _ _ (z da H2 fvs (s1.trans s2) q2 r2)⟩
theorem x_call (T : Ctx X W j) (F : FnOk X.prog X.w X.K X.mg X.base (L2N.CX X.prog X.w) k f fd ps (spM X.K n fm)) (hn : Ar n fm) (hk : k ≤ j) (hg : Gl X x) (hm : X.mg x = some (.ref f)) (hkp : PySem.W.keepIn X.K (.ref f) = true) (hb : Binds X.K fd ps [])
    (ha : PA X (e :: es) (aE X.K W ow am)) (hdb : (x == ("__debug__" : Str)) = false := by decide) (he : starEach (e :: es) X.env = (false, eval e X.env) :: starEach es X.env := by rfl) (hpl : (backTo pos (starEach es X.env)).any (·.1) = false := by rfl) :
    PE X (.Call (.Name x p) (e :: es) [] pos) (tE X.K W ow (call fm am)) :=
  PE.of (pe_callSD (E := WE W) F (T.hr.mono hk) hg hm hkp hb .nil (fun σ => L2N.passAt T.tk σ) ha hdb he hpl) fun _ _ _ h => call_of (fun _ _ _ _ z => z) h hn
/-- C(..) of an own class: what it may let out, at the slots that stand now -/
def tMk (C : Addr) (sp : Sp) (E : St → XK) (t : TA) : TE := fun σ H Q => t σ H fun vs H1 => ∀ y dy, H1 y = none → H1 dy = none → dy ≠ y → sp (.ref y :: vs) (upd (upd H1 dy (.own y)) y (.ins C dy [])) (fun v H2 => v = .non ∧ Q (.ref y) H2) (E σ)
theorem mk_run {CX : CXT} {E : XK} {sp : Sp} {pins : List (Addr × Obj)} {σ : St} {H : Hp} {s : Shared} {Q : VK} {us : List Value} {vs : List V} (M : Mk X.K C f) (F : FnOk X.prog X.w X.K X.mg X.base CX k f fd ps sp) (hr : Room (k + 1) X.A) (hb : Binds X.K fd ps [])
    (hx : PassesAt CX X σ E) (I : Inv X pins σ H s) (rv : Vals vs us)
    (h : ∀ y dy, H y = none → H dy = none → dy ≠ y → sp (.ref y :: vs) (upd (upd H dy (.own y)) y (.ins C dy [])) (fun v H2 => v = .non ∧ Q (.ref y) H2) E) : wpAny (model X.prog X.w) X.A (PySem.call (.ref C) us) (EP X pins σ Q) X.xe s := by
  have e0 := I.hok.fresh (Nat.le_refl s.heap.objs.size)
  have e1 := I.hok.fresh (Nat.le_succ s.heap.objs.size)
  have q := h _ _ e1 e0 (Nat.ne_of_lt (Nat.lt_succ_self _))
  have J := Inv.made (C := C) I
  have rw' : Vals (V.ref (s.heap.objs.size + 1) :: vs) (Value.ref (s.heap.objs.size + 1) :: us) := .cons rfl rv
  have hl : (Value.ref (s.heap.objs.size + 1) :: us).length = ps.length := rw'.length.symm.trans (F.len _ _ _ _ q)
  have b := hb _ (Value.ref (s.heap.objs.size + 1) :: us) J.kIn (by rw [List.append_nil]; exact hl)
  rw [List.append_nil] at b
  refine wpAny_call (make_map (f := f) I.kIn M.makes M.init (beq_iff_eq.mp M.fn) (codeAny_mono (F.run _ X.stack _ _ ⟨Value.ref (s.heap.objs.size + 1) :: us, []⟩ _ _ _ E (hr.make C us []) (J.env0.make C us []) b rw' q) ?_))
  rintro (u | fl) s' z
  · exact hx pins _ _ u s' J z
  · cases fl with
    | ret u =>
      obtain ⟨v, H', I3, r3, rfl, q3⟩ := J.after z
      exact ⟨r3, V.ref (s.heap.objs.size + 1), H', I3, rfl, q3⟩
    | next => exact False.elim z
    | brk => exact False.elim z
    | cont => exact False.elim z
theorem mk_pe {CX : CXT} {E : St → XK} {sp : Sp} {t : TA} (M : Mk X.K C f) (F : FnOk X.prog X.w X.K X.mg X.base CX k f fd ps sp) (hr : Room (k + 1) X.A) (hg : Gl X x) (hm : X.mg x = some (.ref C)) (hb : Binds X.K fd ps []) (hx : ∀ σ, PassesAt CX X σ (E σ))
    (ha : PA X (e :: es) t) (hdb : (x == ("__debug__" : Str)) = false := by decide) (he : starEach (e :: es) X.env = (false, eval e X.env) :: starEach es X.env := by rfl) (hpl : (backTo pos (starEach es X.env)).any (·.1) = false := by rfl) :
    PE X (.Call (.Name x p) (e :: es) [] pos) (tMk C sp E t) :=
  ⟨fun pins s σ H Q I h => wpAny_Call_Name_kw (ld_glob I hg hm (PySem.W.callWith_K (h₀ := X.base) I.ok.mod.kin M.kp (thn (ha.run pos pins s σ H _ I h) fun us s1 ⟨vs, H1, I1, r, q⟩ => ⟨I1.kIn, mk_run M F hr hb (hx σ) I1 r q⟩) he hpl) hdb)⟩
theorem x_make {cls : String} (T : Ctx X W j) (M : Mk X.K (ca X.K cls) f) (F : FnOk X.prog X.w X.K X.mg X.base (L2N.CX X.prog X.w) k f fd ps (spI X.K n cls fm)) (hn : ∀ ds, ds.length + 1 ≠ n → fm ds = .stuck)
    (hk : k + 1 ≤ j) (hg : Gl X x) (hm : X.mg x = some (.ref (ca X.K cls))) (hb : Binds X.K fd ps [])
    (ha : PA X (e :: es) (aE X.K W ow am)) (hdb : (x == ("__debug__" : Str)) = false := by decide) (he : starEach (e :: es) X.env = (false, eval e X.env) :: starEach es X.env := by rfl) (hpl : (backTo pos (starEach es X.env)).any (·.1) = false := by rfl) :
    PE X (.Call (.Name x p) (e :: es) [] pos) (tE X.K W ow (call fm am)) :=
  PE.of (mk_pe (E := WE W) M F (T.hr.mono hk) hg hm hb (fun σ => L2N.passAt T.tk σ) ha hdb he hpl) fun σ H Q ⟨A, H0, O, en, R, q⟩ => by
    refine ⟨A, H0, O, en, R, (Out.bind q).good fun ds q1 vs H1 s1 r1 y dx hy hdx hne => ?_⟩
    have sm : Same H1 (upd (upd H1 dx (.own y)) y (.ins (ca X.K cls) dx [])) := fun b o e => by
      rw [upd_ne (ne_of_none e hy), upd_ne (ne_of_none e hdx)]
      exact e
    refine ⟨AO A O, y, dx, H1, ds, vs, rfl, rfl, hy, hdx, hne, paired_rep r1, ?_, (R.to s1).there, ?_⟩
    · by_cases hl : ds.length + 1 = n
      · exact hl
      · rw [hn ds hl] at q1
        exact q1.elim
    · exact q1.imp (fun d _ k H2 s2 r2 => ⟨rfl, k _ H2 (s1.trans s2) r2⟩) fun c fs z da H2 fvs s2 q2 r2 => z da H2 fvs (s1.trans s2) q2 r2
end
/-! ### defs -/
section
variable {P : Program} {w : World} [HW w] {K : Frag} {mg : Str → Option Value} {base : Heap} {name qual : Str} {params : Arguments} {body : List Stmt} {scope : Scope} {dvs : List V} {kws : List (Str × V)} {f : Addr} {fd : FuncData} {N ps : List Str} {k : Nat} {ow oN oB : Ow} {m : SM}
theorem start_get {N : List Str} {vs : List V} {i : Nat} {v : V} (h : vs[i]? = some v) : (L2.start N vs)[i]? = some (some v) := by
  unfold L2.start
  have hi := (List.getElem?_eq_some_iff.mp h).1
  rw [List.getElem?_append_left (by simpa using hi), List.getElem?_map, h]
  rfl
abbrev WD (E : XK) : WX := fun c d _ H => E c d H
/-- a def's start -/
theorem spM_start {E : XK} {vs : List V} {H : Hp} {Q : VK} (hpre : ps.length ≤ N.length) (hx : ow.x = none) (hp : ∀ i, i < ps.length → ow i = false) (h : spM K ps.length (fn ps.length N.length m) vs H Q E) :
    tS3 .val K (WD E) ow oN oB m { nx := fun _ H' => Q .non H', rt := Q } (L2.start N vs) H := by
  obtain ⟨AV, ds, r, hl, ha, q⟩ := h
  refine ⟨AV, ⟨H, none⟩, fun _ => none, ds.map some ++ List.replicate (N.length - ps.length) none, ?_, ?_⟩
  · have hlv := r.length
    have hN : ps.length ≤ N.length := hpre
    refine ⟨?_, ha, Same.refl H, fun i d h1 h2 => ?_, fun i d h1 h2 => ?_, fun i a h => (nomatch h), fun i j a h => (nomatch h), fun a h => (nomatch h), XFact.none hx⟩
    · unfold L2.start
      simp only [List.length_append, List.length_map, List.length_replicate]
      omega
    · by_cases hi : i < ds.length
      · rw [List.getElem?_append_left (by simpa using hi), List.getElem?_map, List.getElem?_eq_getElem hi] at h1
        simp only [Option.map_some, Option.some.injEq] at h1
        subst h1
        obtain ⟨v, hv, rv⟩ := r.get (List.getElem?_eq_getElem hi)
        exact ⟨v, start_get hv, Rep.move (Mv.less fun b hb => hb.elim id fun ⟨_, z⟩ => nomatch z) _ _ rv⟩
      · rw [List.getElem?_append_right (by simpa using hi)] at h1
        rw [List.getElem?_replicate] at h1
        split at h1 <;> cases h1
    · by_cases hi : i < ds.length
      · rw [hp i (by omega)] at h2
        cases h2
      · rw [List.getElem?_append_right (by simpa using hi)] at h1
        rw [List.getElem?_replicate] at h1
        split at h1 <;> cases h1
  · unfold fn at q
    rw [if_pos hl] at q
    refine (Out.bind q).imp (fun fl _ q => ?_) fun c fs q => ?_
    · cases fl with
      | next e' => exact fun O' σ' H' R' _ => q .non H' R'.same rfl
      | ret d => exact fun v H' s' r' => q v H' s' r'
      | brk e' => exact q.elim
      | cnt e' => exact q.elim
    · exact fun σ' da H' fvs s' q' r' => q da H' fvs s' q' r'
theorem pre_le {N ps : List Str} (h : N.take ps.length = ps) : ps.length ≤ N.length := by
  have h2 := congrArg List.length h
  rw [List.length_take] at h2
  omega
/-- a def whose body computes m -/
theorem fn_ok (F : FunD K name qual params body scope dvs kws f fd) (S : FnScope N ps scope) (hx : ow.x = none) (hp : ∀ i, i < ps.length → ow i = false)
    (hb : ∀ (cdv : Value) (A : Around) (outer : List PySem.Env) (s : Shared) (H : Hp) (E : XK), Ctx (cxOf (L2N.CX P w) P w K mg base N qual scope f cdv A outer s H E) (WD E) k →
      PSs (cxOf (L2N.CX P w) P w K mg base N qual scope f cdv A outer s H E) body (tS3 .val K (WD E) ow oN oB m)) :
    FnOk P w K mg base (L2N.CX P w) (k + 1) f fd ps (spM K ps.length (fn ps.length N.length m)) := by
  refine F.ok S (fun vs H Q E ⟨A, ds, r, h, _⟩ => r.length.symm.trans h) (fun cdv A outer s H vs Q E hr h => ?_)
  exact ⟨tS3 .val K (WD E) ow oN oB m, hb cdv A outer s H E ⟨rfl, L2N.takes_of rfl rfl rfl rfl, passes_of rfl, hr, S.nd⟩, spM_start (pre_le S.pre) hx hp h⟩
/-- an __init__ whose body fills self, which stands in slot 0 -/
theorem init_ok {cls : String} (F : FunD K name qual params body scope dvs kws f fd) (S : FnScope N ps scope) (hox : ow.x = none) (h0 : ow 0 = true) (hp0 : 0 < ps.length) (hp : ∀ i, 0 < i → i < ps.length → ow i = false)
    (hb : ∀ (cdv : Value) (A : Around) (outer : List PySem.Env) (s : Shared) (H : Hp) (E : XK), Ctx (cxOf (L2N.CX P w) P w K mg base N qual scope f cdv A outer s H E) (WD E) k →
      PSs (cxOf (L2N.CX P w) P w K mg base N qual scope f cdv A outer s H E) body (tS .val K (WD E) ow m)) :
    FnOk P w K mg base (L2N.CX P w) (k + 1) f fd ps (spI K ps.length cls (made ps.length N.length cls m)) := by
  refine F.ok S (fun vs H Q E ⟨A, x, dx, H1, ds, ws, h1, _, _, _, _, r, h, _⟩ => by rw [h1, List.length_cons, ← r.length]; exact h) (fun cdv A outer s H vs Q E hr h => ?_)
  obtain ⟨AV, x, dx, H1, ds, ws, rfl, hH, hx, hdx, hne, r, hl, ha, q⟩ := h
  have sd : Same H1 (upd H1 dx (.own x)) := fun b o e => by
    rw [upd_ne (ne_of_none e hdx)]
    exact e
  have hx2 : upd H1 dx (.own x) x = none := by
    rw [upd_ne fun z => hne z.symm]
    exact hx
  have s2 : Same (upd H1 dx (.own x)) H := by
    rw [hH]
    exact new_same hx2
  have s1 : Same H1 H := sd.trans s2
  refine ⟨tS .val K (WD E) ow m, hb cdv A outer s H E ⟨rfl, L2N.takes_of rfl rfl rfl rfl, passes_of rfl, hr, S.nd⟩, AV, ⟨upd H1 dx (.own x), some x⟩, fun i => if i = 0 then some x else none, (some (.ins cls []) :: ds.map some) ++ List.replicate (N.length - ps.length) none, ?_, ?_⟩
  · have hlv := r.length
    have hN : ps.length ≤ N.length := by
      have := S.pre
      have h2 := congrArg List.length this
      rw [List.length_take] at h2
      omega
    have nx : ∀ i a, (if i = 0 then some x else none) = some a → i = 0 ∧ a = x := fun i a h => by
      by_cases hi : i = 0
      · rw [if_pos hi] at h
        cases h
        exact ⟨hi, rfl⟩
      · rw [if_neg hi] at h
        cases h
    have mv : Mv AV H1 (AO AV fun i => if i = 0 then some x else none) H := ⟨fun b hb => by
      rcases hb with hb | ⟨i, hb⟩
      · exact .inl hb
      · rw [(nx i b hb).2]
        exact .inr hx, fun b o e _ => s1 b o e⟩
    refine ⟨?_, fun b hb => ne_none s1 (ha b hb), s2, fun i d h1 h2 => ?_, fun i d h1 h2 => ?_, fun i a h => ?_, fun i j a h h' => (nx i a h).1.trans (nx j a h').1.symm, fun a h => ?_, XFact.none hox⟩
    · unfold L2.start
      simp only [List.length_append, List.length_map, List.length_replicate, List.length_cons]
      omega
    · cases i with
      | zero =>
        rw [h0] at h2
        cases h2
      | succ i =>
        by_cases hi : i < ds.length
        · rw [List.getElem?_append_left (by simpa using hi), List.getElem?_cons_succ, List.getElem?_map, List.getElem?_eq_getElem hi] at h1
          simp only [Option.map_some, Option.some.injEq] at h1
          subst h1
          obtain ⟨v, hv, rv⟩ := r.get (List.getElem?_eq_getElem hi)
          exact ⟨v, start_get (by simpa using hv), Rep.move mv _ _ rv⟩
        · rw [List.getElem?_append_right (by simpa using hi)] at h1
          rw [List.getElem?_replicate] at h1
          split at h1 <;> cases h1
    · cases i with
      | zero =>
        simp only [List.cons_append, List.getElem?_cons_zero, Option.some.injEq] at h1
        subst h1
        refine ⟨x, rfl, start_get rfl, dx, [], ?_, rfl⟩
        rw [hH]
        exact upd_same
      | succ i =>
        by_cases hi : i < ds.length
        · rw [hp (i + 1) (by omega) (by omega)] at h2
          cases h2
        · rw [List.getElem?_append_right (by simpa using hi)] at h1
          rw [List.getElem?_replicate] at h1
          split at h1 <;> cases h1
    · obtain ⟨_, rfl⟩ := nx i a h
      refine ⟨hx2, ?_, fun z => ha a z hx⟩
      rw [hH, upd_same]
      exact fun z => nomatch z
    · cases h
      rfl
  · unfold made at q
    rw [if_pos hl] at q
    refine (Out.bind q).imp (fun fl _ q => ?_) fun c fs q => ?_
    · cases fl with
      | next e' =>
        refine fun O' σ' H' R' _ => ?_
        cases e' with
        | nil => exact q.elim
        | cons d0 r0 =>
          cases d0 with
          | none => exact q.elim
          | some d1 =>
            cases d1 with
            | ins c fs =>
              have q2 : ∀ H', Same H1 H' → Rep K AV H' (.ins c fs) (.ref x) → Q .non H' := q
              refine q2 H' (sd.trans R'.same) ?_
              have hpin : O' 0 = some x := R'.pin x rfl
              obtain ⟨a, p1, p2, dx', fvs, p3, p4⟩ := R'.owns 0 (.ins c fs) rfl h0
              rw [hpin] at p1
              cases p1
              simp only [Rep]
              exact ⟨x, dx', fvs, rfl, fun z => ha x z hx, p3, p4.rep (Mv.less fun b => .inl) fun t b z => (R'.fresh _ b z).2.2⟩
            | _ => exact q.elim
      | ret d => exact q.elim
      | brk e' => exact q.elim
      | cnt e' => exact q.elim
    · exact fun σ' da H' fvs s' q' r' => q da H' fvs (sd.trans s') q' r'
end
end Py
/-! enumerate over tuples and lists. -/
namespace PySem
open Builtin
theorem py_en_new {v : Value} {o : Obj} {H : Heap → Prop} (B : Begins v o H) :
    Meets (Builtin.«enumerate.__new__» ⟨[.type "enumerate", v], []⟩) (fun _ R s => H s.heap ∧
      R (.ok (.ret (.ref (s.heap.push o).objs.size))) { s with heap := (s.heap.push o).push { cls := .type "enumerate", data := .fields #[.none, .bool false, .ref s.heap.objs.size, rawInt 0, .none, .none] } }) :=
  .of_wp fun prog w A R s h => by
    obtain ⟨hp, g, d, tk, os⟩ := s
    obtain ⟨h1, h⟩ := h
    have hsub := sub_enumerate
    have iter1 : ∀ {A' : Around} {E : Value → Shared → Prop} {Q : Value → Shared → Prop}, Q (.ref hp.objs.size) ⟨hp.push o, g, d, tk, os⟩ → wpAny (model prog w) A' (pyIter v) Q E ⟨hp, g, d, tk, os⟩ :=
      fun q => B.iter prog w _ _ ⟨hp, g, d, tk, os⟩ _ h1 q
    wp_walk using iter1
    refine wpAny_stack_any fun st => wpAny_pure ?_
    split
    · rename_i c _ _ _ _ _
      cases (c == Value.type "enumerate")
      · wp_walk using iter1
        exact ⟨_, rfl, h⟩
      · wp_walk using iter1
        exact ⟨_, rfl, h⟩
    · wp_walk using iter1
      exact ⟨_, rfl, h⟩
theorem py_en_call {prog : Program} {w : World} {A : Around} {E : Value → Shared → Prop} {s : Shared} {v : Value} {o : Obj} {H : Heap → Prop} {Q : Value → Shared → Prop} (B : Begins v o H) (h1 : H s.heap)
    (h : ∀ h', IsEnum h' (s.heap.objs.size + 1) s.heap.objs.size 0 .none → h'.get? s.heap.objs.size = some o → h'.objs.size = s.heap.objs.size + 2 →
      (∀ b o, s.heap.get? b = some o → h'.get? b = some o) → Q (.ref (s.heap.objs.size + 1)) { s with heap := h' }) :
    wpAny (model prog w) A (call (.type "enumerate") [v]) Q E s := by
  refine callType_new F.called_enumerate (by decide) (F.typeCall_enumerate_1 _) (F.newCall_enumerate_1 _) (fun obj => F.args_object_init_2 obj _) F.entry_enumerate_new (py_en_new B) ⟨h1, ?_⟩
  have hz : (s.heap.push o).objs.size = s.heap.objs.size + 1 := Heap.size_push ..
  show _ ∧ _
  rw [hz]
  have he : IsEnum ((s.heap.push o).push { cls := .type "enumerate", data := .fields #[.none, .bool false, .ref s.heap.objs.size, rawInt 0, .none, .none] }) (s.heap.objs.size + 1) s.heap.objs.size 0 .none := by
    have this := Heap.get?_push_size (s.heap.push o) (o := { cls := .type "enumerate", data := .fields #[.none, .bool false, .ref s.heap.objs.size, rawInt 0, .none, .none] }) rfl
    rw [hz] at this
    exact this
  exact ⟨⟨_, he, rfl⟩, h _ he (Heap.get?_push_of_some _ (Heap.get?_push_size _ B.free)) (by rw [Heap.size_push, hz]) fun b o x => Heap.get?_push_of_some _ (Heap.get?_push_of_some _ x)⟩
end PySem
namespace Py
variable [WI]
open PySem L2
/-- enumerate over the tuple at a -/
def Iet (K : Frag) (a : Addr) : It :=
  ⟨fun i H => ∃ (xs : List V) (x : V), SqT K H a xs ∧ xs[i]? = some x, fun i H v H' => ∃ T x, v = .ref T ∧ H T = none ∧ H' = upd H T (.tup [.int (i : Nat), x]) ∧ ∀ xs, SqT K H a xs → xs[i]? = some x, fun i H => ∃ xs : List V, SqT K H a xs ∧ i = xs.length⟩
theorem turn_enumT {P : Program} {w : World} {K : Frag} {elts : List Expr} {kk : Nat} {tpos : Pos} (a e it : Addr) :
    Turn P w K (.Tuple elts kk tpos) (Iet K a) [e, it] e (fun i h => (∃ old, IsEnum h e it ((i : Nat) : Int) old) ∧ h.IsTupleIter it a i ∧ e ≠ it ∧ a ≠ it ∧ a ≠ e) where
  mem := by simp
  obj := fun i h st b hb => by
    obtain ⟨⟨old, he⟩, ⟨o, ho, hc, hd⟩, _⟩ := st
    rcases (by simpa using hb : b = e ∨ b = it) with z | z
    · subst z
      exact ⟨_, he, fun v q => nomatch q⟩
    · subst z
      exact ⟨o, ho, fun v q => by rw [hd] at q; cases q⟩
  keep := fun i h h' st k => by
    obtain ⟨⟨old, he⟩, hi, n1, n2, n3⟩ := st
    exact ⟨⟨old, k e (by simp) _ he⟩, hi.at fun o q => k it (by simp) o q, n1, n2, n3⟩
  item := by
    intro X hP hw hK hc i pins s σ H E I hf st hg
    subst hP hw hK
    obtain ⟨⟨old, he⟩, hit, n1, n2, n3⟩ := st
    obtain ⟨xs, x, hq, hx⟩ := hg
    obtain ⟨its, rv, tp, hz⟩ := I.tuple hq
    obtain ⟨u, hu, ru⟩ := rv.get hx
    have hel : e < s.heap.objs.size := Heap.lt_size he
    have hil : it < s.heap.objs.size := by
      obtain ⟨_, q, _⟩ := hit
      exact Heap.lt_size q
    have hi : i < its.toArray.size := by
      have := (List.getElem?_eq_some_iff.mp hu).1
      simpa using this
    have htp : s.heap.IsTuple a its.toArray := tp
    refine wpAny_pyNext_enum_itemD (Draws.tuple (prog := X.prog) (w := X.w) (A := X.A.in1) (I.ok.hd hc) it a n2 its.toArray) he (show _ ∧ _ from ⟨hit, htp⟩) hi n1 (by simp [n1, n3.symm]) fun x' h' tk hP' ho hst' hT hsz hk => ?_
    have hxu : x' = u := by
      have q1 : its[i]? = some x' := by simpa using hP'
      rw [hu] at q1
      exact (Option.some.inj q1).symm
    subst hxu
    refine ⟨_, rfl, wpAny_letOwnedTupleGo_enum (s := { s with heap := h', toks := tk + 1 }) ho fun h'' he' sb => ?_⟩
    have hT2 : h''.get? s.heap.objs.size = some { cls := .type "tuple", data := .seq #[.int i tk, x'] } := (sb.2 _ (Nat.ne_of_gt hel)).trans hT
    have new : ObjOk X.prog X.w (upd H s.heap.objs.size (.tup [.int (i : Nat), x])) h'' s.heap.objs.size (.tup [.int (i : Nat), x]) :=
      ⟨by show 2 ≤ sizeLine; decide, [.int i tk, x'], .cons ⟨_, rfl⟩ (.cons ru .nil), ⟨_, hT2, rfl, _, rfl⟩⟩
    have I1 : Inv X pins σ (upd H s.heap.objs.size (.tup [.int (i : Nat), x])) { s with heap := h'', toks := tk + 1 } :=
      I.turnedNew (ch := [e, it]) (fun b ob hb q => (sb.2 b fun z => hb (by simp [z])).trans (hk b ob (fun z => hb (by simp [z])) (fun z => hb (by simp [z])) q)) hf (Nat.le_refl _) new
    refine ⟨.ref s.heap.objs.size, _, I1, rfl, ⟨_, x, rfl, I.hok.fresh (Nat.le_refl _), rfl, fun ys hy => by rw [I.tuple_inj hy hq]; exact hx⟩, ⟨⟨x', ?_⟩, hst'.1.at fun o q => (sb.2 it n1.symm).trans q, n1, n2, n3⟩, fun b hb => ?_⟩
    · have e1 : ((i + 1 : Nat) : Int) = (i : Int) + 1 := by omega
      rw [e1]
      exact he'
    · have hb' : b < s.heap.objs.size := by
        rcases (by simpa using hb : b = e ∨ b = it) with z | z
        · subst z
          exact hel
        · subst z
          exact hil
      rw [upd_ne (Nat.ne_of_lt hb')]
      exact (hf b hb).1
  done := by
    intro X hP hw hK hc i pins s σ H E I hf st hg
    subst hP hw hK
    obtain ⟨⟨old, he⟩, hit, n1, n2, n3⟩ := st
    obtain ⟨xs, hq, hx⟩ := hg
    obtain ⟨its, rv, tp, hz⟩ := I.tuple hq
    obtain ⟨f0, f1, f2, f3, f4, f5⟩ := hf it (by simp)
    have hl := rv.length
    have htp : s.heap.IsTuple a its.toArray := tp
    have hi2 : i = its.toArray.size := by
      rw [List.size_toArray]
      omega
    subst hi2
    exact wpAny_pyNext_enum_endD (Draws.tuple (prog := X.prog) (w := X.w) (A := X.A.in1) (I.ok.hd hc) it a n2 its.toArray) he (show _ ∧ _ from ⟨hit, htp⟩) fun h' eb => ⟨rfl, I.turned (t' := s.toks) (fun b o hb q => eb b o hb q) f0 f1 f3 f4 f5⟩
  self := fun A i s Q E st h => by
    obtain ⟨⟨_, he⟩, _⟩ := st
    exact wpAny_pyIter_enum he h
section
variable {X : Cx} [CW X] {W : WX} {ow : Ow} {a b c e : Expr} {es elts : List Expr} {m ma mb mc : EM} {pos p tpos : Pos} {kk : Nat}
def iEnumE (K : Frag) (ta : TA) : TI := fun σ H R => ta σ H fun vs H1 => ∃ a, vs = [.ref a] ∧ ((∃ xs, SqL K H1 a xs ∧ R (Ite K a) H1) ∨ ∃ xs, SqT K H1 a xs ∧ R (Iet K a) H1)
theorem pi_enumE {ta : TA} (hg : Gl X "enumerate") (hm : X.mg "enumerate" = none) (ha : PA X [e] ta) (hs : starEach [e] X.env = [(false, eval e X.env)] := by rfl) : PI X (.Tuple elts kk tpos) (.Call (.Name "enumerate" p) [e] [] pos) (iEnumE X.K ta) := by
  refine ⟨fun pins s σ H R I h => ?_⟩
  refine PyProof.Rows.Call_ (ld_blt I hg hm PyProof.Rows.boot_enumerate (PyProof.Rows.callWith_type1 (thn (ha.run pos pins s σ H _ I h) fun us s1 ⟨vs, H1, I1, r1, q1⟩ => ?_) hs rfl))
  obtain ⟨a, ex, q⟩ := q1
  subst ex
  obtain ⟨u, rfl, ru⟩ := vals1 r1
  cases ru
  have fin : ∀ b ∈ [s1.heap.objs.size + 1, s1.heap.objs.size], FpOk X pins H1 b := fun b hb => by
    have hle : s1.heap.objs.size ≤ b := by
      rcases (by simpa using hb : b = s1.heap.objs.size + 1 ∨ b = s1.heap.objs.size) with z | z
      · rw [z]
        exact Nat.le_add_right _ _
      · rw [z]
        exact Nat.le_refl _
    exact I1.fpOk hle (I1.hok.fresh hle)
  rcases q with ⟨xs, hq, q⟩ | ⟨xs, hq, q⟩
  · obtain ⟨its, rv, tp, hz⟩ := I1.list hq
    refine py_en_call (begins_list a its.toArray) tp.isList fun h' he hit hsz hk => wpAny_pyIter_enum he ?_
    exact ⟨s1.heap.objs.size + 1, [s1.heap.objs.size + 1, s1.heap.objs.size], _, _, H1, rfl, I1.kept (t' := s1.toks) hk, turn_enum a (s1.heap.objs.size + 1) s1.heap.objs.size, ⟨⟨.none, he⟩, ⟨_, hit, rfl, rfl⟩, Nat.succ_ne_self _⟩, fin, q⟩
  · obtain ⟨its, rv, tp, hz⟩ := I1.tuple hq
    have hlt : a < s1.heap.objs.size := tp.lt
    refine py_en_call (begins_tuple a its.toArray) tp fun h' he hit hsz hk => wpAny_pyIter_enum he ?_
    exact ⟨s1.heap.objs.size + 1, [s1.heap.objs.size + 1, s1.heap.objs.size], _, _, H1, rfl, I1.kept (t' := s1.toks) hk, turn_enumT a (s1.heap.objs.size + 1) s1.heap.objs.size, ⟨⟨.none, he⟩, ⟨_, hit, rfl, rfl⟩, Nat.succ_ne_self _, Nat.ne_of_lt hlt, Nat.ne_of_lt (Nat.lt_succ_of_lt hlt)⟩, fin, q⟩
theorem enumL_get : ∀ {ds : List D} {n i : Nat} {d : D}, ds[i]? = some d → (enumL n ds)[i]? = some (.tup [.int ((n + i : Nat) : Int), d])
  | [], _, _, _, h => by simp at h
  | x :: ds, n, 0, d, h => by
    simp at h
    subst h
    rfl
  | x :: ds, n, i + 1, d, h => by
    simp only [enumL, List.getElem?_cons_succ]
    rw [enumL_get (n := n + 1) (by simpa using h)]
    rw [Nat.add_right_comm]
    rfl
theorem enumL_len : ∀ (ds : List D) (n : Nat), (enumL n ds).length = ds.length
  | [], _ => rfl
  | x :: ds, n => by
    simp only [enumL, List.length_cons]
    rw [enumL_len ds]
theorem enum_item {K : Frag} {A : AS} {H : Hp} {T : Addr} {i : Nat} {d : D} {v : V} (hn : H T = none) (r : Rep K A H d v) : Same H (upd H T (.tup [.int (i : Nat), v])) ∧ Rep K A (upd H T (.tup [.int (i : Nat), v])) (.tup [.int ((0 + i : Nat) : Int), d]) (.ref T) := by
  refine ⟨new_same hn, new_tup ?_ hn⟩
  rw [Nat.zero_add]
  simp only [RepL]
  exact ⟨_, _, rfl, rfl, v, [], rfl, r, rfl⟩
theorem itm_enumT {K : Frag} {A : AS} {H : Hp} {a : Addr} {ds : List D} {vs : List V} (q : SqT K H a vs) (r : RepL K A H ds vs) : Itm Mv K A (Iet K a) (enumL 0 ds) H := fun i A2 H2 m => by
  have q2 := SqT.move m q
  have r2 := RepL.move m ds vs r
  rw [enumL_len]
  refine ⟨fun hi => ?_, fun hi => ⟨vs, q2, by rw [← r.length]; exact hi⟩⟩
  obtain ⟨v, hv, rv⟩ := r2.get (i := i) (List.getElem?_eq_getElem hi)
  refine ⟨⟨vs, v, q2, hv⟩, fun x H3 ⟨T, x', e1, hn, e2, k⟩ => ?_⟩
  subst e1 e2
  have := k vs q2
  rw [hv] at this
  cases this
  obtain ⟨s1, r1⟩ := enum_item (i := i) hn rv
  exact ⟨s1, _, enumL_get (List.getElem?_eq_getElem hi), r1⟩
theorem itm_enumL {M : MvT} {K : Frag} {A : AS} {H : Hp} {a : Addr} {ds : List D} {vs : List V} (hM : ∀ A2 H2, M A H A2 H2 → Mv A H A2 H2 ∧ Rd H2 a (.lst vs)) (r : RepL K A H ds vs) : Itm M K A (Ite K a) (enumL 0 ds) H := fun i A2 H2 m => by
  obtain ⟨mv, rd⟩ := hM A2 H2 m
  have q2 : SqL K H2 a vs := .inl rd
  have r2 := RepL.move mv ds vs r
  rw [enumL_len]
  refine ⟨fun hi => ?_, fun hi => ⟨vs, q2, by rw [← r.length]; exact Nat.le_of_eq hi.symm⟩⟩
  obtain ⟨v, hv, rv⟩ := r2.get (i := i) (List.getElem?_eq_getElem hi)
  refine ⟨⟨vs, v, q2, hv⟩, fun x H3 ⟨T, x', e1, hn, e2, k⟩ => ?_⟩
  subst e1 e2
  have := k vs q2
  rw [hv] at this
  cases this
  obtain ⟨s1, r1⟩ := enum_item (i := i) hn rv
  exact ⟨s1, _, enumL_get (List.getElem?_eq_getElem hi), r1⟩
theorem i_enum (hg : Gl X "enumerate") (hm : X.mg "enumerate" = none) (ha : PE X a (tE X.K W ow ma)) (hs : starEach [a] X.env = [(false, eval a X.env)] := by rfl) : PI X (.Tuple elts kk tpos) (.Call (.Name "enumerate" p) [a] [] pos) (tI Mv X.K W ow (ienum ma)) :=
  PI.of (pi_enumE hg hm (pa_cons ha pa_nil hs) hs) fun σ H R' ⟨A, H0, O, en, R, q⟩ => ⟨A, H0, O, en, R, (Out.bind (Out.bind q)).good fun d q1 v H1 s1 r1 => by
    cases d with
    | lst xs =>
      obtain ⟨p, vs, rfl, n, h, r⟩ := (by simpa only [Rep] using r1 : ∃ a vs, v = .ref a ∧ ¬ AO A O a ∧ Rd H1 a (.lst vs) ∧ RepL X.K (AO A O) H1 xs vs)
      exact ⟨p, rfl, .inl ⟨vs, .inl h, q1 _ H1 s1 (itm_enumL (fun A2 H2 m => ⟨m, (Rd.move m h n).1⟩) r)⟩⟩
    | tup xs =>
      obtain ⟨p, vs, rfl, h, r⟩ := (by simpa only [Rep] using r1 : ∃ a vs, v = .ref a ∧ SqT X.K H1 a vs ∧ RepL X.K (AO A O) H1 xs vs)
      exact ⟨p, rfl, .inr ⟨vs, h, q1 _ H1 s1 (itm_enumT h r)⟩⟩
    | _ => exact q1.elim⟩
end
end Py
/-! Comprehensions as expressions, what the module's names stand for, the ends. -/
namespace Py
variable [WI]
open PySem L2
section
variable {X : Cx} [CW X] {W : WX} {ow : Ow} {a b c e : Expr} {es : List Expr} {m ma mb mc : EM} {am : AM} {pos p spos : Pos} {k j n : Nat}
variable {elt tg iter : Expr} {ifs : List Expr} {scope : Scope} {own : List (Str × Nat)} {it : IM} {g : GM} {t : TM} {me : EM} {ts : List Nat}
theorem ts_nil : PTs X [] (tT X.K W ow yes) := ⟨fun pins s σ H Q I ⟨A, H0, O, en, R, q⟩ => pts_nil.run pins s σ H Q I (q H (Same.refl H))⟩
theorem ts_one (h : PT X c (tT X.K W ow t)) : PTs X [c] (tT X.K W ow t) := pts_one h
/-- [elt for tg in iter if ..] -/
theorem f_lc (T : Ctx X W j) (hi : PI X tg iter (tI Gr X.K W ow it)) (ok : BlkOk X.N X.env.scope scope own)
    (hg : ∀ (s : Shared) (H : Hp) (C : Addr) (cl : List (Str × Addr)) (fp : List Addr), Ctx (X.blk s H scope (compEnvC scope cl C X.env) fp) W0 j → PG (X.blk s H scope (compEnvC scope cl C X.env) fp) tg (tGt X.K ow ts g))
    (ht : ∀ (s : Shared) (H : Hp) (C : Addr) (cl : List (Str × Addr)) (fp : List Addr), Ctx (X.blk s H scope (compEnvC scope cl C X.env) fp) W0 j → PTs (X.blk s H scope (compEnvC scope cl C X.env) fp) ifs (tT X.K W0 ow t))
    (he : ∀ (s : Shared) (H : Hp) (C : Addr) (cl : List (Str × Addr)) (fp : List Addr), Ctx (X.blk s H scope (compEnvC scope cl C X.env) fp) W0 j → PE (X.blk s H scope (compEnvC scope cl C X.env) fp) elt (tE X.K W0 ow me))
    (hts : ∀ i ∈ ts, i ∈ own.map (·.2)) (hx : ow.x = none := by rfl) (hs : ∀ x, foldedSetIterable iter X.env x = pure x := by intro _; rfl) :
    PE X (.ListComp elt [⟨tg, iter, ifs, 0⟩] scope pos) (tF X.K W ow (lcE it (own.map (·.2)) g t me)) :=
  PE.of (pe_lc T.calm T.nd hi ok (fun s H C cl fp => hg s H C cl fp (T.blk ..)) (fun s H C cl fp => ht s H C cl fp (T.blk ..)) (fun s H C cl fp => he s H C cl fp (T.blk ..)) hs) fun _ _ _ h => lc_of hx hts h
/-- y = [..], y a plain local -/
theorem s_lc0 {i : Nat} {y : Str} {py : Pos} (T : Ctx X W j) (hy : X.N[i]? = some y) (hyl : X.env.scope.names.lookup y = some .local)
    (hsw : swapsWith (.ListComp elt [⟨tg, iter, ifs, 0⟩] scope pos) (some (.Name y py)) spos.line X.env = pure true) (hi : PI X tg iter (tI Gr X.K W ow it)) (ok : BlkOk X.N X.env.scope scope own)
    (hg : ∀ (s : Shared) (H : Hp) (C : Addr) (cl : List (Str × Addr)) (fp : List Addr), Ctx (X.blk s H scope (compEnvC scope cl C X.env) fp) W0 j → PG (X.blk s H scope (compEnvC scope cl C X.env) fp) tg (tGt X.K ow ts g))
    (ht : ∀ (s : Shared) (H : Hp) (C : Addr) (cl : List (Str × Addr)) (fp : List Addr), Ctx (X.blk s H scope (compEnvC scope cl C X.env) fp) W0 j → PTs (X.blk s H scope (compEnvC scope cl C X.env) fp) ifs (tT X.K W0 ow t))
    (he : ∀ (s : Shared) (H : Hp) (C : Addr) (cl : List (Str × Addr)) (fp : List Addr), Ctx (X.blk s H scope (compEnvC scope cl C X.env) fp) W0 j → PE (X.blk s H scope (compEnvC scope cl C X.env) fp) elt (tE X.K W0 ow me))
    (hts : ∀ i ∈ ts, i ∈ own.map (·.2)) (hx : ow.x = none := by rfl) (hs : ∀ x, foldedSetIterable iter X.env x = pure x := by intro _; rfl) :
    PS X (.Assign [.Name y py] (.ListComp elt [⟨tg, iter, ifs, 0⟩] scope pos) spos) (tAsg (tF X.K W ow (lcE it (own.map (·.2)) g t me)) (gName i)) :=
  PS.of (ps_setLc T.calm T.nd hy hyl hsw hi ok (fun s H C cl fp => hg s H C cl fp (T.blk ..)) (fun s H C cl fp => ht s H C cl fp (T.blk ..)) (fun s H C cl fp => he s H C cl fp (T.blk ..)) hs) fun _ _ _ h => lc_of hx hts h
/-! ### is True -/
end
/-! ### a try that runs through -/
theorem Ctx.nox {X : Cx} [CW X] {W : WX} {k : Nat} (c : Ctx X W k) : Ctx X.nox W0 k := ⟨c.calm, takes0N, PassesOwn.never, c.hr, c.nd⟩
section
variable {fr : Rm} {X : Cx} [CW X] {W : WX} {ow : Ow} {body : List Stmt} {u : SM} {h0 : ExceptHandler} {hs : List ExceptHandler} {pos : Pos} {j : Nat}
theorem s_thru (T : Ctx X W j) (hb : Ctx X.nox W0 j → PSs X.nox body (tS fr X.K W0 ow u)) : PS X (.Try body (h0 :: hs) [] [] pos) (tS fr X.K W ow (thru u)) :=
  PS.of (ps_try_thru0 (hb T.nox)) fun D σ H ⟨A, H0, O, en, R, q⟩ => ⟨A, H0, O, en, R, by
    have q1 : Out (noexc (u en)) (EndOk fr X.K A H0 ow O H D) (badS X.K W A H0) := q
    exact q1.noexc⟩
end
/-! ### what the module's names stand for -/
/-- the name x calls a def of n parameters that computes fm -/
def CallOk (P : Program) (w : World) (K : Frag) (mg : Str → Option Value) (base : Heap) (k : Nat) (x : Str) (d : He.DefD) (ps : List Str) (n : Nat) (fm : List D → Res D) : Prop := ∃ f fd, mg x = some (.ref f) ∧ PySem.W.keepIn K (.ref f) = true ∧ Binds K fd ps [] ∧ FnOk P w K mg base (L2N.CX P w) k f fd ps (spM K n fm) ∧ Ar n fm ∧ FunD K d.name d.qual d.params d.body d.scope [] [] f fd
theorem perm_cons {α : Type} {i : Nat} {π : List Nat} {ws : List α} : perm (i :: π) ws = match ws[i]? with | some a => a :: perm π ws | none => perm π ws := by
  unfold perm
  rw [List.filterMap_cons]
  cases ws[i]? <;> rfl
theorem perm_vals {zs : List V} {ws : List Value} (h : Vals zs ws) : ∀ π : List Nat, Vals (perm π zs) (perm π ws)
  | [] => .nil
  | i :: π => by
    rw [perm_cons, perm_cons]
    have hl := h.length
    by_cases hi : i < zs.length
    · have hi2 : i < ws.length := by omega
      obtain ⟨u, hu, ru⟩ := h.get (List.getElem?_eq_getElem hi)
      rw [List.getElem?_eq_getElem hi, hu]
      exact .cons ru (perm_vals h π)
    · rw [List.getElem?_eq_none (by omega), List.getElem?_eq_none (by omega)]
      exact perm_vals h π
theorem perm_rep {K : Frag} {A : AS} {H : Hp} {ds : List D} {vs : List V} (h : RepL K A H ds vs) : ∀ π : List Nat, RepL K A H (perm π ds) (perm π vs)
  | [] => by simp [perm, RepL]
  | i :: π => by
    rw [perm_cons, perm_cons]
    have hl := h.length
    by_cases hi : i < ds.length
    · obtain ⟨v, hv, rv⟩ := h.get (List.getElem?_eq_getElem hi)
      rw [List.getElem?_eq_getElem hi, hv]
      simp only [RepL]
      exact ⟨_, _, rfl, rv, perm_rep h π⟩
    · rw [List.getElem?_eq_none (by omega), List.getElem?_eq_none (by omega)]
      exact perm_rep h π
/-- the name cls makes an instance -/
def MakeOk (P : Program) (w : World) (K : Frag) (mg : Str → Option Value) (base : Heap) (k : Nat) (cls : String) (n : Nat) (fm : List D → Res D) : Prop := ∃ f fd ps, mg (Str.ofString cls) = some (.ref (ca K cls)) ∧ Mk K (ca K cls) f ∧ Binds K fd ps [] ∧ FnOk P w K mg base (L2N.CX P w) k f fd ps (spI K n cls fm) ∧ ∀ ds, ds.length + 1 ≠ n → fm ds = .stuck
section
variable {X : Cx} [CW X] {W : WX} {ow : Ow} {e : Expr} {es : List Expr} {am : AM} {pos p : Pos} {k j n : Nat} {x : Str} {fm : List D → Res D} {d : He.DefD} {ps : List Str}
theorem x_own1 (T : Ctx X W j) (C : CallOk X.prog X.w X.K X.mg X.base k x d ps n fm) (hk : k ≤ j) (hg : Gl X x) (ha : PA X (e :: es) (aE X.K W ow am)) (hdb : (x == ("__debug__" : Str)) = false := by decide)
    (he : starEach (e :: es) X.env = (false, eval e X.env) :: starEach es X.env := by rfl) (hpl : (backTo pos (starEach es X.env)).any (·.1) = false := by rfl) : PE X (.Call (.Name x p) (e :: es) [] pos) (tE X.K W ow (call fm am)) := by
  obtain ⟨f, fd, h1, h2, h3, h4, h5, _⟩ := C
  exact x_call T h4 h5 hk hg h1 h2 h3 ha hdb he hpl
theorem x_new {cls : String} (T : Ctx X W j) (C : MakeOk X.prog X.w X.K X.mg X.base k cls n fm) (hk : k + 1 ≤ j) (hg : Gl X (Str.ofString cls)) (ha : PA X (e :: es) (aE X.K W ow am)) (hdb : (Str.ofString cls == ("__debug__" : Str)) = false := by decide)
    (he : starEach (e :: es) X.env = (false, eval e X.env) :: starEach es X.env := by rfl) (hpl : (backTo pos (starEach es X.env)).any (·.1) = false := by rfl) : PE X (.Call (.Name (Str.ofString cls) p) (e :: es) [] pos) (tE X.K W ow (call fm am)) := by
  obtain ⟨f, fd, ps, h1, h2, h3, h4, h5⟩ := C
  exact x_make T h2 h4 h5 hk hg h1 h3 ha hdb he hpl
theorem xk_nil {R : RR} : PK X [] (tA R X.K W ow argN) := ⟨fun pos pins s σ H Q I ⟨A, H0, O, en, R', q⟩ => pk_nil.run pos pins s σ H Q I (q [] H (Same.refl H) .nil)⟩
theorem xk_cons {m : EM} {nm : Option Str} {kpos : Pos} {kws : List Keyword} (ha : PE X e (tE X.K W ow m)) (hr : PK X kws (aE X.K W ow am)) : PK X (⟨nm, e, kpos⟩ :: kws) (aE X.K W ow (argC m am)) :=
  ⟨fun pos pins s σ H Q I ⟨A, H0, O, en, R, q⟩ => (pk_cons ha hr).run pos pins s σ H Q I ⟨A, H0, O, en, R, (Out.bind q).good fun d q1 v H1 s1 r1 => ⟨A, H0, O, en, R.to s1, ((Out.bind q1).to s1).good fun ds q2 vs H2 s2 r2 =>
    q2 (v :: vs) H2 (s1.trans s2) (.cons (Rep.move (Mv.same s2) _ _ r1) r2)⟩⟩⟩
/-- f(k = v, ..), keywords alone -/
theorem x_kw {kws : List Keyword} {ks : List Str} {π : List Nat} (T : Ctx X W j) (C : CallOk X.prog X.w X.K X.mg X.base k x d ps n fm) (hk : k ≤ j) (hg : Gl X x) (hW : ∀ c d σ σ' H, W c d σ H → W c d σ' H)
    (hbind : ∀ (kV doc pm : Value) (an : Option Addr) (cdv ct : Value) (ws : List Value), ws.length = ks.length → bindArgs (PySem.W.fnOf d.name d.qual d.params d.body d.scope .none kV doc pm an cdv ct) ⟨[], ks.zip ws⟩ = pure (ps.zip (perm π ws))) (hkw : PK X kws (aE X.K W ow am)) (hlen : kws.length = ks.length := by rfl)
    (hall : (backToKw pos (keywordEach kws X.env)).all (·.1.isSome) = true := by rfl) (hks : (backToKw pos (keywordEach kws X.env)).filterMap (·.1) = ks := by rfl)
    (hdb : (x == ("__debug__" : Str)) = false := by decide) (hpl : ((backTo pos (starEach [] X.env)).any (·.1) || (backToKw pos (keywordEach kws X.env)).any (·.1.isNone)) = false := by rfl) :
    PE X (.Call (.Name x p) [] kws pos) (tE X.K W ow (call (kwc ks.length π fm) am)) := by
  obtain ⟨f, fd, hm, hkp, _, F, hn, FD⟩ := C
  have hb : KBn X.K fd ps 0 ks (fun _ ws => perm π ws) (fun _ zs => perm π zs) := by
    obtain ⟨oc, od, dV, kV, doc, pm, an, cdv, ct, osl, rfl, lk, hcd, hD, hK⟩ := FD.ex
    rcases hD with ⟨_, rfl⟩ | ⟨e, _⟩
    · refine ⟨fun s us ws X l1 l2 => ?_, fun r1 r2 => perm_vals r2 π⟩
      have : us = [] := List.length_eq_zero_iff.mp l1
      subst this
      exact .of_eq (hbind kV doc pm an cdv ct ws l2)
    · exact absurd rfl e
  refine ⟨fun pins s σ H Q I h => ?_⟩
  obtain ⟨A, H0, O, en, R, q⟩ := h
  refine wpAny_Call_Name_kw (ld_glob I hg hm ?_ hdb)
  refine PySem.W.callWith_KW0 (h₀ := X.base) I.ok.mod.kin hkp hall ?_ hpl
  refine thn (hkw.run pos pins s σ H (fun zs H1 => zs.length = ks.length ∧ spM X.K n fm (perm π zs) H1 Q fun c d H => ∀ σ', W c d σ' H) I ⟨A, H0, O, en, R, (Out.bind q).good fun ds q1 vs H1 s1 r1 => ?_⟩) fun ws s2 ⟨zs, H2, I2, rz, hl, q2⟩ => ⟨I2.kIn, ?_⟩
  · unfold kwc at q1
    by_cases hl : ds.length = ks.length
    · rw [if_pos hl] at q1
      have r2 := paired_rep r1
      refine ⟨r2.length.symm.trans hl, AO A O, perm π ds, perm_rep r2 π, ?_, (R.to s1).there, q1.imp (fun d _ k v H2 s2 r2 => k v H2 (s1.trans s2) r2) fun c fs z da H2 fvs s2 q2 r2 σ' => hW _ _ _ σ' _ (z da H2 fvs (s1.trans s2) q2 r2)⟩
      exact hn.len q1
    · rw [if_neg hl] at q1
      exact q1.elim
  · rw [hks]
    exact run_fnN (us := []) (vs := []) F (T.hr.mono hk) hb (L2N.passes_call T.tk fun c d σ H h => h σ) I2 .nil rz rfl hl q2
end
/-! ### defs by the head's facts -/
section
variable {P : Program} {w : World} [HW w] {K : Frag} {mg : Str → Option Value} {base : Heap} {k : Nat} {ow oN oB : Ow} {m : SM} {name qual : Str} {params : Arguments} {body : List Stmt} {scope : Scope} {f : Addr} {N ps : List Str} {p n : Nat}
theorem def_ok {d : He.DefD} (F : ∃ fd, FunD K d.name d.qual d.params d.body d.scope [] [] f fd) (g : mg d.name = some (.ref f)) (S : FnScope N ps d.scope) (hpl : ps.length = p) (hnl : N.length = n) (hp : ∀ i, i < p → ow i = false)
    (hbind : ∀ (kV doc pm : Value) (an : Option Addr) (cdv ct : Value) (us : List Value), us.length = ps.length → bindArgs (PySem.W.fnOf d.name d.qual d.params d.body d.scope .none kV doc pm an cdv ct) ⟨us, []⟩ = pure (ps.zip us))
    (hb : ∀ (cdv : Value) (A : Around) (outer : List PySem.Env) (s : Shared) (H : Hp) (E : XK), Ctx (cxOf (L2N.CX P w) P w K mg base N d.qual d.scope f cdv A outer s H E) (WD E) k →
      PSs (cxOf (L2N.CX P w) P w K mg base N d.qual d.scope f cdv A outer s H E) d.body (tS3 .val K (WD E) ow oN oB m)) (hx : ow.x = none := by rfl) : CallOk P w K mg base (k + 1) d.name d ps p (fn p n m) := by
  obtain ⟨fd, F⟩ := F
  subst hpl hnl
  exact ⟨f, fd, g, F.kp, FunD.bindsN F hbind, fn_ok F S hx hp hb, ar_fn, F⟩
theorem ar_made {p n : Nat} {cls : String} {body : SM} : ∀ ds, ds.length + 1 ≠ p → made p n cls body ds = .stuck := fun ds h => if_neg h
theorem cls_ok {cls : String} (F : ∃ fd, FunD K name qual params body scope [] [] f fd) (g : mg (Str.ofString cls) = some (.ref (ca K cls))) (M : Mk K (ca K cls) f) (S : FnScope N ps scope) (hpl : ps.length = p) (hnl : N.length = n) (h0 : ow 0 = true) (hp0 : 0 < p) (hp : ∀ i, i < p → 0 < i → ow i = false)
    (hbind : ∀ (kV doc pm : Value) (an : Option Addr) (cdv ct : Value) (us : List Value), us.length = ps.length → bindArgs (PySem.W.fnOf name qual params body scope .none kV doc pm an cdv ct) ⟨us, []⟩ = pure (ps.zip us))
    (hb : ∀ (cdv : Value) (A : Around) (outer : List PySem.Env) (s : Shared) (H : Hp) (E : XK), Ctx (cxOf (L2N.CX P w) P w K mg base N qual scope f cdv A outer s H E) (WD E) k →
      PSs (cxOf (L2N.CX P w) P w K mg base N qual scope f cdv A outer s H E) body (tS .val K (WD E) ow m)) (hx : ow.x = none := by rfl) : MakeOk P w K mg base (k + 1) cls p (made p n cls m) := by
  obtain ⟨fd, F⟩ := F
  subst hpl hnl
  exact ⟨f, fd, ps, g, M, FunD.bindsN F hbind, init_ok F S hx h0 hp0 (fun i a b => hp i b a) hb, ar_made⟩
end
/-! ### the head's facts, tables, and one more -/
/-! ### a table of texts -/
def TabOk (K : Frag) (w : World) (mg : Str → Option Value) (x : Str) (tab : List (String × Int)) : Prop :=
  ∃ d es n, mg x = some (.ref d) ∧ KDict K w d es n ∧ ∀ z : String, ∃ r, PySem.W.nsIn K d (Str.ofString z) = some r ∧ (tab.lookup z = none → r = none) ∧ ∀ i, tab.lookup z = some i → ∃ t, r = some (.int i t)
theorem lookup_mem {z : String} {i : Int} : ∀ {tab : List (String × Int)}, tab.lookup z = some i → (z, i) ∈ tab
  | [], h => by cases h
  | (y, j) :: r, h => by
    rw [List.lookup_cons] at h
    split at h
    · rename_i e
      have e1 : z = y := by simpa using e
      cases h
      subst e1
      exact List.mem_cons_self
    · exact List.mem_cons_of_mem _ (lookup_mem h)
theorem lookup_no {z : String} : ∀ {tab : List (String × Int)}, tab.lookup z = none → ∀ q ∈ tab, q.1 ≠ z
  | [], _, q, hq => by cases hq
  | (y, j) :: r, h, q, hq => by
    rw [List.lookup_cons] at h
    split at h
    · cases h
    · rename_i e
      rcases List.mem_cons.mp hq with e1 | hq
      · subst e1
        intro e2
        have e2 : y = z := e2
        subst e2
        simp at e
      · exact lookup_no h q hq
theorem tab_keys {P : Params} : ∀ {l : List DictEntry} {ks : List Str}, l.map He.keyOf = He.keysIn P ks → ∀ e ∈ l, ∃ k t, e.key = .str k t ∧ k ∈ ks
  | [], _, _, e, he => by cases he
  | e0 :: r, [], h, _, _ => by cases h
  | e0 :: r, k :: ks, h, e, he => by
    have h1 : He.keyOf e0 :: r.map He.keyOf = some (k, PyData.keyHash P k) :: He.keysIn P ks := h
    injection h1 with h2 h3
    rcases List.mem_cons.mp he with e1 | he
    · subst e1
      unfold He.keyOf at h2
      split at h2
      · rename_i x t q
        have h4 := Option.some.inj h2
        obtain ⟨h5, h6⟩ := Prod.mk.inj h4
        exact ⟨x, t, q, by rw [h5]; exact List.mem_cons_self⟩
      · cases h2
    · obtain ⟨k1, t, e1, m⟩ := tab_keys h3 e he
      exact ⟨k1, t, e1, List.mem_cons_of_mem _ m⟩
theorem tab_ok {K : Frag} {w : World} {mg : Str → Option Value} {x : Str} {tab : List (String × Int)} (hraw : He.dicW K (He.ga K x) = some (He.keysIn w.params (tab.map fun q => Str.ofString q.1))) (hv : He.valsB K (He.ga K x) (tab.map fun q => (Str.ofString q.1, He.Dv.int q.2)) = true) (hg : mg x = some (.ref (He.ga K x))) : TabOk K w mg x tab := by
  obtain ⟨es, n, D⟩ := He.dicW_ok hraw
  refine ⟨_, es, n, hg, D, fun z => ?_⟩
  cases e : tab.lookup z with
  | some i =>
    have m := lookup_mem e
    obtain ⟨u, h1, h2⟩ := He.valsB_ok hv (q := (Str.ofString z, He.Dv.int i)) (List.mem_map.mpr ⟨_, m, rfl⟩)
    refine ⟨_, h1, (fun q => nomatch q), fun j q => ?_⟩
    cases q
    obtain ⟨t, rfl⟩ := (show ∃ t, u = Value.int i t from h2)
    exact ⟨t, rfl⟩
  | none =>
    have no := lookup_no e
    have ks : es.toList.map He.keyOf = He.keysIn w.params (tab.map fun q => Str.ofString q.1) := by
      unfold He.dicW at hraw
      rw [D.at_] at hraw
      have low := D.low
      simp only [low, decide_true, Bool.true_and, Bool.not_false, Bool.and_true] at hraw
      simpa using hraw
    refine ⟨none, ?_, fun _ => rfl, fun j q => nomatch q⟩
    unfold PySem.W.nsIn
    rw [D.at_]
    have ef : es.toList.find? (·.key.isStr (Str.ofString z)) = none := by
      rw [List.find?_eq_none]
      intro ent hent h
      obtain ⟨k, t, e1, m⟩ := tab_keys ks ent hent
      rw [e1] at h
      obtain ⟨q, hq, e2⟩ := List.mem_map.mp m
      have e3 : k = Str.ofString z := by simpa [Value.isStr] using h
      exact no q hq (ofS_inj (e2.trans e3))
    have er : es.toList.any (·.refKey) = false := by
      rw [List.any_eq_false]
      intro ent hent h
      obtain ⟨k, t, e1, m⟩ := tab_keys ks ent hent
      simp [DictEntry.refKey, e1] at h
    simp only [ef, er]
    rfl
section
variable {X : Cx} [CW X] {W : WX} {ow : Ow} {a : Expr} {ma : EM} {pos p : Pos} {tab : List (String × Int)} {nm : Str}
theorem t_nothas (T : TabOk X.K X.w X.mg nm tab) (hg : Gl X nm) (ha : PE X a (tE X.K W ow ma)) (hm : behindInMarks .NotIn (.Name nm p) = false := by rfl) (hd : (nm == ("__debug__" : Str)) = false := by decide) : PT X (.Compare a [.NotIn] [.Name nm p] pos) (tT X.K W ow (tst (un (onothas tab) ma))) := by
  obtain ⟨d, es, n, h1, h2, h3⟩ := T
  refine PT.of (pt_cmpR (op_notIn_kd h2) ha (pe_glob (v := .ref d) hg h1 rfl hd) hm) fun σ H Q ⟨A, H0, O, en, R, q⟩ => ⟨A, H0, O, en, R, (Out.bind (Out.bind q)).good fun d1 q1 v1 H1 s1 r1 => ?_⟩
  cases d1 with
  | str z =>
    obtain ⟨r, e, k1, k2⟩ := h3 z
    refine ⟨_, r, r1, rfl, e, _, rfl, ?_⟩
    have e2 : r.isSome = (tab.lookup z).isSome := by
      cases e3 : tab.lookup z with
      | none => rw [k1 e3] <;> rfl
      | some i =>
        obtain ⟨t, e4⟩ := k2 i e3
        rw [e4] <;> rfl
    rw [e2]
    exact q1 _ s1
  | _ => exact q1.elim
theorem x_look (T : TabOk X.K X.w X.mg nm tab) (hg : Gl X nm) (ha : PE X a (tE X.K W ow ma)) (hs : PlainIx a := by exact fun _ _ => rfl) (hd : (nm == ("__debug__" : Str)) = false := by decide) : PE X (.Subscript (.Name nm p) a pos) (tE X.K W ow (un (olook tab) ma)) := by
  obtain ⟨d, es, n, h1, h2, h3⟩ := T
  refine PE.of (pe_ix ix_kdict (pe_glob (v := .ref d) hg h1 rfl hd) ha hs) fun σ H Q ⟨A, H0, O, en, R, q⟩ => ?_
  refine (⟨A, H0, O, en, R, (Out.bind q).good fun d1 q1 v1 H1 s1 r1 => ?_⟩ : tE X.K W ow ma σ H _)
  cases d1 with
  | str z =>
    obtain ⟨r, e, k1, k2⟩ := h3 z
    cases e3 : tab.lookup z with
    | none =>
      simp only [olook, e3, opt, Option.map_none] at q1
      exact q1.elim
    | some i =>
      obtain ⟨t, e4⟩ := k2 i e3
      subst e4
      simp only [olook, e3, opt, Option.map_some] at q1
      exact ⟨d, Str.ofString z, .int i, rfl, r1, ⟨es, n, _, h2.at_, h2.lit, e, ⟨t, rfl⟩⟩, q1 _ _ s1 (flat_rep (d := .int i) rfl _ _)⟩
  | _ => exact q1.elim
end
/-! ### append -/
theorem s_app1 {fr : Rm} {X : Cx} [CW X] {W : WX} {ow : Ow} {i : Nat} {o e : Expr} {m : EM} {apos cpos pos : Pos} (ho : PE X o (tVar i)) (h : PE X e (tE X.K W ow m)) (hi : ow i = true)
    (hbase : attributeBase o "append" X.env (eval o X.env) = eval o X.env := by rfl)
    (hfew : ((backTo cpos (starEach [e] X.env)).all (fun x => !x.1) && (backToKw cpos (keywordEach [] X.env)).all (fun x => x.1.isSome)
      && decide (([e] : List Expr).length + ([] : List Keyword).length + (if ([] : List Keyword).isEmpty then 0 else 1) < 30)) = true := by rfl)
    (hline : (apos.endLine == cpos.line) = true := by rfl) (hs : starEach [e] X.env = [(false, eval e X.env)] := by rfl)
    (hsw : swapsWith (.Call (.Attribute o "append" apos) [e] [] cpos) none pos.line X.env = pure false := by rfl) :
    PS X (.Expr (.Call (.Attribute o "append" apos) [e] [] cpos) pos) (tS fr X.K W ow (app i m)) :=
  s_app (ps_expr (pe_bm PySem.F.plainAttrs_list PySem.F.slot_list_append PySem.F.type_list_append mt_append ho (pa_cons h pa_nil hs) hbase hfew hline hs (by rfl)) hsw) hi
/-! ### code that is not reached -/
/-! ### the law -/
end Py
/-! What a head tells, in one place; the law's end. -/
namespace Py
open PySem L2
open He (Fa DefD Tab)
theorem Ctx.eq [WI] {X : Cx} [CW X] {W : WX} {k : Nat} (T : Ctx X W k) : OpR X (compareOp .Eq) (r2 X.K oeq) := y_eq (by have := T.hr.un; omega)
theorem Ctx.ne [WI] {X : Cx} [CW X] {W : WX} {k : Nat} (T : Ctx X W k) : OpR X (compareOp .NotEq) (r2 X.K one) := y_ne (by have := T.hr.un; omega)
theorem hv_len : bootBuiltins "len" = some (.builtin "len") := by decide +kernel
theorem hv_all : bootBuiltins "all" = some (.builtin "all") := by decide +kernel
theorem hv_max : bootBuiltins "max" = some (.builtin "max") := by decide +kernel
theorem hv_min : bootBuiltins "min" = some (.builtin "min") := by decide +kernel
theorem hv_int : bootBuiltins "int" = some (.type "int") := by decide +kernel
theorem hv_tuple : bootBuiltins "tuple" = some (.type "tuple") := by decide +kernel
theorem hv_list : bootBuiltins "list" = some (.type "list") := by decide +kernel
theorem hv_bool : bootBuiltins "bool" = some (.type "bool") := by decide +kernel
theorem hv_str : bootBuiltins "str" = some (.type "str") := by decide +kernel
/-! ### the list objects left out -/
theorem klookup_mem {a : Addr} {o : Obj} : ∀ {l : List (Addr × Obj)}, l.lookup a = some o → (a, o) ∈ l
  | [], h => by cases h
  | (b, u) :: r, h => by
    rw [List.lookup_cons] at h
    split at h
    · rename_i e
      have e1 : a = b := by simpa using e
      cases h
      subst e1
      exact List.mem_cons_self
    · exact List.mem_cons_of_mem _ (klookup_mem h)
theorem sqL_rd {K : Frag} (h : noL K = true) {H : Hp} {a : Addr} {vs : List V} (q : SqL K H a vs) : Rd H a (.lst vs) := by
  rcases q with q | ⟨o, its, n, hk, hc, _⟩
  · exact q
  · have m := List.all_eq_true.mp h _ (klookup_mem hk)
    simp [notList, hc] at m
/-! ### facts -/
structure Facts (fa : List Fa) (fn : List DefD) (ts : List Tab) (ms : List (Frag → Bool)) (w : World) (K : Frag) (mg : Str → Option Value) : Prop where
  c : He.SaysT fa fn ts w K
  m : (noL K && ms.all fun m => m K) = true
  h : ∃ h : Heap, K.In h ∧ h.Ns mainGlobals mg
section
variable {fa : List Fa} {fn : List DefD} {ts : List Tab} {ms : List (Frag → Bool)} {w : World} {K : Frag} {mg : Str → Option Value}
theorem Facts.glo (Y : Facts fa fn ts ms w K mg) (i : Nat) {x : Str} (h : fa[i]? = some (.glo x) := by rfl) : mg x = some (.ref (He.ga K x)) := by
  obtain ⟨_, KX, G⟩ := Y.h
  exact He.glo_ok KX G (Y.c.d.fact i h)
theorem Facts.free (Y : Facts fa fn ts ms w K mg) (i : Nat) {x : Str} (h : fa[i]? = some (.free x) := by rfl) : mg x = none := by
  obtain ⟨_, KX, G⟩ := Y.h
  exact He.free_ok KX G (Y.c.d.fact i h)
theorem Facts.mkr (Y : Facts fa fn ts ms w K mg) (i : Nat) {x : String} (h : fa[i]? = some (.mkr (Str.ofString x)) := by rfl) : Mk K (ca K x) (He.ma K (ca K x) "__init__") := He.mkr_ok (Y.c.d.fact i h)
theorem Facts.def_ (Y : Facts fa fn ts ms w K mg) (i : Nat) {d : DefD} (h : fn[i]? = some d := by rfl) : ∃ fd, FunD K d.name d.qual d.params d.body d.scope (d.dvs K) (d.kws K) (He.fAd K d.at_) fd := Y.c.d.def_ i h
theorem Facts.more (Y : Facts fa fn ts ms w K mg) (i : Nat) {m : Frag → Bool} (h : ms[i]? = some m := by rfl) : m K = true := by
  have q := Y.m
  rw [Bool.and_eq_true] at q
  exact List.all_eq_true.mp q.2 m (List.mem_of_getElem? h)
theorem Facts.noL (Y : Facts fa fn ts ms w K mg) : noL K = true := by
  have q := Y.m
  rw [Bool.and_eq_true] at q
  exact q.1
theorem att_ok {cs : List String} {f : String} (h : attB cs f K = true) : ∀ c ∈ cs, Cls K (ca K c) ∧ NoAttr K (ca K c) (Str.ofString f) := fun c hc => by
  have q := List.all_eq_true.mp h c hc
  rw [Bool.and_eq_true] at q
  exact ⟨He.cls_ok q.1, He.noat_ok q.2⟩
theorem Facts.tab [WI] (Y : Facts fa fn ts ms w K mg) {x : String} {tab : List (String × Int)} (i j k : Nat) (h1 : ts[i]? = some (tabT x tab) := by rfl) (h2 : ms[j]? = some (tabB x tab) := by rfl) (h3 : fa[k]? = some (.glo (Str.ofString x)) := by rfl) : TabOk K w mg (Str.ofString x) tab := by
  refine tab_ok ?_ (Y.more j h2) (Y.glo k h3)
  have e : ts.map (fun t => He.dicW K (t.1 K)) = ts.map fun t => some (He.keysIn w.params t.2) := congrArg (fun z : He.AlT => z.2) Y.c
  have e2 : (ts.map fun t => He.dicW K (t.1 K))[i]? = (ts.map fun t => some (He.keysIn w.params t.2))[i]? := by rw [e]
  rw [List.getElem?_map, List.getElem?_map, h1] at e2
  exact Option.some.inj e2
end
/-! ### the law's def -/
section
variable [WI] {P : Program} {w : World} [HW w] {K : Frag} {mg : Str → Option Value} {k : Nat} {ow oN oB : Ow} {m : SM} {qual : Str} {params : Arguments} {body : List Stmt} {scope : Scope} {f : Addr} {N : List Str} {n : Nat}
theorem law_ok (F : ∃ fd, FunD K "law" qual params body scope [] [] f fd) (S : FnScope N ["script"] scope) (hnl : N.length = n) (hp : ow 0 = false)
    (hbind : ∀ (kV doc pm : Value) (an : Option Addr) (cdv ct : Value) (us : List Value), us.length = 1 → bindArgs (PySem.W.fnOf "law" qual params body scope .none kV doc pm an cdv ct) ⟨us, []⟩ = pure ((["script"] : List Str).zip us))
    (hb : ∀ (base : Heap) (cdv : Value) (A : Around) (outer : List PySem.Env) (s : Shared) (H : Hp) (E : XK), Ctx (cxOf (L2N.CX P w) P w K mg base N qual scope f cdv A outer s H E) (WD E) k →
      PSs (cxOf (L2N.CX P w) P w K mg base N qual scope f cdv A outer s H E) body (tS3 .val K (WD E) ow oN oB m)) (hx : ow.x = none := by rfl) :
    ∃ fd : FuncData, (∀ (s : Shared) (u : Value), BindsTo s fd ⟨[u], []⟩ [("script", u)]) ∧ ∀ base : Heap, FnOk P w K mg base (L2N.CX P w) (k + 1) f fd ["script"] (spM K 1 (fn 1 n m)) := by
  obtain ⟨fd, F⟩ := F
  subst hnl
  have b := FunD.bindsA (ps := ["script"]) F hbind
  exact ⟨fd, fun s v => b s [v] rfl, fun base => fn_ok F S hx (fun i hi => by
    have : i = 0 := by simpa using hi
    subst this
    exact hp) (hb base)⟩
theorem ints_rep {K : Frag} {A : AS} {H : Hp} : ∀ ns : List Int, RepL K A H (ns.map D.int) (ns.map V.int)
  | [] => by simp [RepL]
  | n :: ns => by
    simp only [List.map_cons, RepL]
    exact ⟨_, _, rfl, rfl, ints_rep ns⟩
omit [WI] in
/-- what escapes nothing can be handed out -/
theorem cx_none {P : Program} {w : World} {H : Hp} {s : Shared} {e : Value} {s' : Shared} (h : L2N.CX P w [] H s (fun _ _ _ => False) e s') : False := by
  obtain ⟨a, B, H', cls, d, rfl, fl, hok, ub, na, os, ag, hE⟩ := h
  exact hE
end
open PyProof.Rows in
theorem walk_ofW {l : PySem.W.OpenLaw} {n k : Nat} {q : Program} {loose : List Str} {XP : (Str → Option Value) → Heap → Prop} {YP : World → Heap → Prop} {d : DefRec} {CX : World → CXT} {x : Str}
    (hn : l.most = some n) (hn2 : n ≤ sizeLine) (hdf : d.params.defaults = []) (hr : Room k callerA)
    (F : ∀ (w : World) (mg : Str → Option Value) (fa : Addr) (h : Heap), YP w h → h.Ns mainGlobals mg → mg d.name = some (.ref fa) →
      ∃ (K : PySem.W.Frag) (fd : FuncData) (sp : Sp), K.In h ∧ (∀ (s : Shared) (u : Value), BindsTo s fd ⟨[u], []⟩ [(x, u)]) ∧
        (∀ (H : Hp) (a : Addr) (ns : List Int), ns.length ≤ n → Only H → SqL K H a (ns.map V.int) → sp [.ref a] H (fun v _ => v = .bl true) fun _ _ _ => False) ∧
        ∀ base : Heap, K.In base → base.Ns mainGlobals mg → FnOk l.prog w K mg base (CX w) k fa fd [x] sp)
    (hCX : ∀ (w : World) (H : Hp) (s : Shared) (e : Value) (s' : Shared), CX w [] H s (fun _ _ _ => False) e s' → False) :
    PySem.W.WalkO q loose XP YP l.row.toRowW d [] (fun f vs => PySem.call f vs) := by
  refine Att.attach_call hn hdf fun w s₀ s₁ mg mb fa o pm cd doc a vs ns G Y ho hd hcd hmg hobj hints hlen hg => ?_
  obtain ⟨K, fd, sp, KX, hb, hsp, hF⟩ := F w mg fa _ Y G.T.g hmg
  exact law_call KX G.T.g G.T.b G.T.builtins G.T.nolimit hg hobj hints (Nat.le_trans hlen hn2) hr hF hb (fun H hO hS => hsp H a ns hlen hO hS) fun H e s' => hCX w H s₁ e s'
end Py
/-! Methods of own classes, zip, constants of the module, |=. -/
namespace Py
variable [WI]
open PySem L2
open He (Fa DefD Tab)
/-! ### methods -/
structure MethOk (P : Program) (w : World) (K : Frag) (mg : Str → Option Value) (base : Heap) (k : Nat) (cls mn : String) (n : Nat) (fm : List D → Res D) : Prop where
  ex : ∃ f fd ps, Cls K (ca K cls) ∧ Meth K (ca K cls) (Str.ofString mn) f ∧ Binds K fd ps [] ∧ FnOk P w K mg base (L2N.CX P w) k f fd ps (spM K n fm) ∧ Ar n fm
section
variable {P : Program} {w : World} [HW w] {K : Frag} {mg : Str → Option Value} {base : Heap} {k : Nat} {ow oN oB : Ow} {m : SM} {f : Addr} {N ps : List Str} {p n : Nat} {cls mn : String}
theorem meth_def {d : He.DefD} (F : ∃ fd, FunD K d.name d.qual d.params d.body d.scope [] [] f fd) (hc : Cls K (ca K cls)) (hme : Meth K (ca K cls) (Str.ofString mn) f) (S : FnScope N ps d.scope) (hpl : ps.length = p) (hnl : N.length = n) (hp : ∀ i, i < p → ow i = false)
    (hbind : ∀ (kV doc pm : Value) (an : Option Addr) (cdv ct : Value) (us : List Value), us.length = ps.length → bindArgs (PySem.W.fnOf d.name d.qual d.params d.body d.scope .none kV doc pm an cdv ct) ⟨us, []⟩ = pure (ps.zip us))
    (hb : ∀ (cdv : Value) (A : Around) (outer : List PySem.Env) (s : Shared) (H : Hp) (E : XK), Ctx (cxOf (L2N.CX P w) P w K mg base N d.qual d.scope f cdv A outer s H E) (WD E) k →
      PSs (cxOf (L2N.CX P w) P w K mg base N d.qual d.scope f cdv A outer s H E) d.body (tS3 .val K (WD E) ow oN oB m)) (hx : ow.x = none := by rfl) : MethOk P w K mg base (k + 1) cls mn p (fn p n m) := by
  obtain ⟨fd, F⟩ := F
  subst hpl hnl
  exact ⟨f, fd, ps, hc, hme, FunD.bindsN F hbind, fn_ok F S hx hp hb, ar_fn⟩
end
section
variable {fa : List Fa} {fn : List DefD} {ts : List Tab} {ms : List (Frag → Bool)} {w : World} [HW w] {K : Frag} {mg : Str → Option Value}
theorem Facts.cls (Y : Facts fa fn ts ms w K mg) (i : Nat) {x : String} (h : fa[i]? = some (.cls (Str.ofString x)) := by rfl) : Cls K (ca K x) := He.cls_ok (Y.c.d.fact i h)
theorem Facts.meth (Y : Facts fa fn ts ms w K mg) (i : Nat) {x : String} {m : Str} (h : fa[i]? = some (.meth (Str.ofString x) m) := by rfl) : Meth K (ca K x) m (He.ma K (ca K x) m) := He.meth_ok (Y.c.d.fact i h)
theorem Facts.int (Y : Facts fa fn ts ms w K mg) (i : Nat) {x : Str} {z : Int} (h : fa[i]? = some (.int x z) := by rfl) : ∃ t, mg x = some (.int z t) := by
  obtain ⟨_, KX, G⟩ := Y.h
  exact He.int_ok KX G (Y.c.d.fact i h)
theorem Facts.str (Y : Facts fa fn ts ms w K mg) (i : Nat) {x z : Str} (h : fa[i]? = some (.str x z) := by rfl) : ∃ t, mg x = some (.str z t) := by
  obtain ⟨_, KX, G⟩ := Y.h
  exact He.str_ok KX G (Y.c.d.fact i h)
end
/-! ### another name of a def -/
/-! ### zip -/
/-! ### x |= y -/
end Py
namespace Py
open PySem PySem.Spec PyProof.Rows L2
/-! ### zip over any two of lists and tuples: k = true: a tuple -/
def IAt (k : Bool) (h : Heap) (it l : Addr) (i : Nat) : Prop := match k with | true => h.IsTupleIter it l i | false => h.IsListIter it l i
def SAt (k : Bool) (h : Heap) (l : Addr) (xs : Array Value) : Prop := match k with | true => h.IsTuple l xs | false => h.IsList l xs
theorem IAt.up {k : Bool} {h h' : Heap} {it l : Addr} {i : Nat} (x : IAt k h it l i) (e : ∀ o, h.get? it = some o → h'.get? it = some o) : IAt k h' it l i := by
  cases k with
  | true => exact Heap.IsTupleIter.at x e
  | false => exact Heap.IsListIter.at x e
theorem SAt.up {k : Bool} {h h' : Heap} {l : Addr} {xs : Array Value} (x : SAt k h l xs) (e : ∀ o, h.get? l = some o → h'.get? l = some o) : SAt k h' l xs := by
  cases k with
  | true => obtain ⟨o, ho, r⟩ := x; exact ⟨o, e _ ho, r⟩
  | false => obtain ⟨o, ho, r⟩ := x; exact ⟨o, e _ ho, r⟩
theorem IAt.some {k : Bool} {h : Heap} {it l : Addr} {i : Nat} (x : IAt k h it l i) : ∃ o, h.get? it = some o ∧ ∀ v, o.data ≠ .cell v := by
  cases k with
  | true => obtain ⟨o, ho, _, d⟩ := x; exact ⟨o, ho, fun v q => by rw [d] at q; cases q⟩
  | false => obtain ⟨o, ho, _, d⟩ := x; exact ⟨o, ho, fun v q => by rw [d] at q; cases q⟩
abbrev zo (n : Nat) : Obj := { cls := .type "zip", data := .fields #[.none, .bool false, .bool false, .ref (n + 2), .ref (n + 3)] }
/-! the turn -/
def SqK (k : Bool) (K : Frag) (H : Hp) (a : Addr) (xs : List V) : Prop := match k with | true => SqT K H a xs | false => SqL K H a xs
theorem SqK.at {k : Bool} {X : Cx} {pins : List (Addr × Obj)} {σ : L2.St} {H : Hp} {s : Shared} {a : Addr} {xs : List V} (I : Inv X pins σ H s) (q : SqK k X.K H a xs) : ∃ its, Vals xs its ∧ SAt k s.heap a its.toArray ∧ a < s.heap.objs.size := by
  cases k with
  | true =>
    obtain ⟨its, r, p, _⟩ := I.tuple q
    obtain ⟨o, ho, _⟩ := id p
    exact ⟨its, r, p, Heap.lt_size ho⟩
  | false =>
    obtain ⟨its, r, p, _⟩ := I.list q
    exact ⟨its, r, p.isList, p.lt⟩
theorem SqK.inj {k : Bool} {X : Cx} {pins : List (Addr × Obj)} {σ : L2.St} {H : Hp} {s : Shared} {a : Addr} {xs ys : List V} (I : Inv X pins σ H s) (q : SqK k X.K H a xs) (q' : SqK k X.K H a ys) : xs = ys := by
  cases k with
  | true => exact I.tuple_inj q q'
  | false => exact I.list_inj q q'
/-! ### zip in the mirror -/
variable [WI]
end Py
/-! Who owns what, statement by statement. -/
namespace Py
variable [WI]
open PySem L2
/-- the names that own what they hold -/
def ownS : List Nat → Nat → Bool
  | [], _ => false
  | j :: l, i => i == j || ownS l i
theorem owS_mem : ∀ {l : List Nat} {i : Nat}, ownS l i = true → i ∈ l
  | j :: l, i, h => by
    unfold ownS at h
    rw [Bool.or_eq_true] at h
    rcases h with h | h
    · exact List.mem_cons.mpr (.inl (by simpa using h))
    · exact List.mem_cons_of_mem _ (owS_mem h)
theorem owS_le {l l' : List Nat} (h : (l'.all fun i => ownS l i) = true) : ∀ i, ownS l' i = true → ownS l i = true := fun i hi => List.all_eq_true.mp h i (owS_mem hi)
theorem owS_add {l l' : List Nat} {i : Nat} (h : (l'.all fun j => j == i || ownS l j) = true ∧ ownS l' i = true ∧ (l.all fun j => ownS l' j) = true) : ∀ j, ownS l' j = (j == i || ownS l j) := fun j => by
  obtain ⟨h1, h2, h3⟩ := h
  cases e : ownS l' j with
  | true => exact (List.all_eq_true.mp h1 j (owS_mem e)).symm
  | false =>
    cases e2 : (j == i || ownS l j) with
    | false => rfl
    | true =>
      rw [Bool.or_eq_true] at e2
      rcases e2 with e2 | e2
      · rw [show j = i by simpa using e2, h2] at e
        cases e
      · rw [List.all_eq_true.mp h3 j (owS_mem e2)] at e
        cases e
abbrev owS (l : List Nat) : Ow := ⟨ownS l, none⟩
/-- .. while an error is held -/
abbrev Ow.hold (o : Ow) (i : Nat) (a da : Addr) (fs : List (String × D)) : Ow := ⟨fun j => j == i || o j, some ⟨i, a, da, fs⟩⟩
/-- the new owners know no more of an error -/
def XLe (o1 o : Ow) : Prop := o1.x = none ∨ (o1.x = o.x ∧ ∀ q, o1.x = some q → o q.i = true → o1 q.i = true)
theorem XLe.refl {o : Ow} : XLe o o := .inr ⟨rfl, fun _ _ z => z⟩
theorem XFact.cut {K : Frag} {A : AS} {H : Hp} {σ : L2.St} {e : Env} {o o1 : Ow} (h : XFact K A H σ e o) (l : XLe o1 o) : XFact K A H σ e o1 := fun q hq => by
  rcases l with l | ⟨l1, l2⟩
  · rw [l] at hq
    cases hq
  · obtain ⟨h1, h2, h3, h4⟩ := h q (l1 ▸ hq)
    exact ⟨l2 q hq h1, h2, h3, h4⟩
section
variable {fr : Rm} {K : Frag} {A : AS} {H0 : Base} {ow o1 oN oB : Ow} {O : OW} {σ : L2.St} {H H' : Hp} {e : Env}
def cutO (ow o1 : Ow) (O : OW) : OW := fun i => if ow (i / 3) = true ∧ o1 (i / 3) = false then none else O i
theorem cutO_some {i : Nat} {a : Addr} (h : cutO ow o1 O i = some a) : O i = some a := by
  unfold cutO at h
  split at h
  · cases h
  · exact h
theorem cut_less : ∀ a, AO A (cutO ow o1 O) a → AO A O a := fun a h => h.elim .inl fun ⟨i, q⟩ => .inr ⟨i, cutO_some q⟩
/-- some names give up what they own -/
theorem ER.part (R : ER K A H0 ow O σ H e) (h : ∀ i, o1 i = true → ow i = true) (h0 : ow 0 = true → o1 0 = true) (hx : XLe o1 ow) : ER K A H0 o1 (cutO ow o1 O) σ H e := by
  have mv : Mv (AO A O) H (AO A (cutO ow o1 O)) H := Mv.less cut_less
  have stay : ∀ i j, o1 i = true → j / 3 = i → cutO ow o1 O j = O j := fun i j hi e => by
    unfold cutO
    rw [if_neg]
    rintro ⟨_, z⟩
    rw [e, hi] at z
    cases z
  have third : ∀ (i : Nat) (t : Bool), (3 * i + if t then 2 else 1) / 3 = i := fun i t => by cases t <;> simp <;> omega
  refine ⟨R.len, R.a0, R.same, fun i d h1 h2 => ?_, fun i d h1 h2 => ?_, fun i a q => R.fresh i a (cutO_some q), fun i j a q q' => R.inj i j a (cutO_some q) (cutO_some q'), fun a q => ?_, (R.exq.heap mv fun _ _ e => e).cut hx⟩
  · cases hi : ow i with
    | false =>
      obtain ⟨v, q, r⟩ := R.vals i d h1 hi
      exact ⟨v, q, Rep.move mv _ _ r⟩
    | true =>
      obtain ⟨a, q, q2, r⟩ := R.owns i d h1 hi
      refine ⟨.ref a, q2, ?_⟩
      have gone : ∀ (j : Nat) (b : Addr), j / 3 = i → O j = some b → ¬ AO A (cutO ow o1 O) b := fun j b hj e => by
        rintro (z | ⟨l, z⟩)
        · exact (R.fresh j b e).2.2 z
        · have e1 := R.inj j l b e (cutO_some z)
          subst e1
          unfold cutO at z
          rw [hj, if_pos ⟨hi, h2⟩] at z
          cases z
      exact r.rep mv (gone _ a (by omega) q) fun t b z => gone _ b (third i t) z
  · obtain ⟨a, q, q2, r⟩ := R.owns i d h1 (h i h2)
    exact ⟨a, (stay i _ h2 (by omega)).trans q, q2, r.move mv rfl fun t b z => ⟨(stay i _ h2 (third i t)).trans z, rfl⟩⟩
  · have q0 := R.pin a q
    unfold cutO
    rw [if_neg]
    · exact q0
    · rintro ⟨z1, z2⟩
      rw [h0 z1] at z2
      cases z2
/-- a name is to own what comes next -/
theorem ER.opens (R : ER K A H0 ow O σ H e) {i : Nat} (hi : ow i = false) (hN : ∀ j, oN j = (j == i || ow j)) (hx : XLe oN ow) : ER K A H0 oN O σ H (e.set i none) := by
  have other : ∀ j d, (e.set i none)[j]? = some (some d) → i ≠ j ∧ e[j]? = some (some d) := fun j d h => by
    by_cases hj : i = j
    · subst hj
      have hl : i < e.length := by
        have := (List.getElem?_eq_some_iff.mp h).1
        simpa using this
      rw [List.getElem?_set_self hl] at h
      cases h
    · rw [List.getElem?_set_ne hj] at h
      exact ⟨hj, h⟩
  refine ⟨by simp [R.len], R.a0, R.same, fun j d h1 h2 => ?_, fun j d h1 h2 => ?_, R.fresh, R.inj, R.pin, (R.exq.move Mv.refl (fun _ _ e => e) fun j hj n => ?_).cut hx⟩
  rotate_right
  · have hne : i ≠ j := fun z => by
      rw [z, hj] at hi
      cases hi
    rw [List.getElem?_set_ne hne]
    exact ⟨rfl, n⟩
  · obtain ⟨hj, h3⟩ := other j d h1
    rw [hN, show (j == i) = false by simpa using fun z => hj z.symm, Bool.false_or] at h2
    exact R.vals j d h3 h2
  · obtain ⟨hj, h3⟩ := other j d h1
    rw [hN, show (j == i) = false by simpa using fun z => hj z.symm, Bool.false_or] at h2
    exact R.owns j d h3 h2
theorem EndOk3.le {o1 oB1 : Ow} {D : Ends} (hN : ∀ i, oN i = true → o1 i = true) (hN0 : o1 0 = true → oN 0 = true) (hB : ∀ i, oB i = true → oB1 i = true) (hB0 : oB1 0 = true → oB 0 = true) (hNx : XLe oN o1) (hBx : XLe oB oB1) : ∀ {f : Fl}, EndOk3 fr K A H0 oN oB O H D f → EndOk3 fr K A H0 o1 oB1 O H D f
  | .next _, h => fun O' σ' H' R n => h _ σ' H' (R.part hN hN0 hNx) (n.trans (Mv.less cut_less))
  | .ret _, h => h
  | .brk _, h => fun O' σ' H' R n => h _ σ' H' (R.part hB hB0 hBx) (n.trans (Mv.less cut_less))
  | .cnt _, h => fun O' σ' H' R n => h _ σ' H' (R.part hB hB0 hBx) (n.trans (Mv.less cut_less))
end
section
variable {fr : Rm} {X : Cx} [CW X] {W : WX} {ow o1 oN oB : Ow} {a b c e : Expr} {es : List Expr} {m ma mb mc : EM} {st : Stmt} {rest body orelse : List Stmt} {u v : SM} {t : TM} {pos : Pos} {j : Nat}
/-- a statement that changes no owner -/
theorem s_up (h : PS X st (tS fr X.K W ow u)) (hB : ∀ i, oB i = true → ow i = true) (hB0 : ow 0 = true → oB 0 = true) (hx : XLe oB ow := by first | exact Or.inl rfl | exact XLe.refl | exact Or.inr ⟨rfl, by intro q z; cases z; intro _; rfl⟩) : PS X st (tS3 fr X.K W ow ow oB u) :=
  PS.of h fun D σ H ⟨A, H0, O, en, R, q⟩ => ⟨A, H0, O, en, R, q.good fun f q1 => q1.le (fun _ z => z) (fun z => z) hB hB0 XLe.refl hx⟩
theorem c_nil : PSs X [] (tS3 fr X.K W ow ow oB skip) := PSs.of pss_nil fun D σ H ⟨A, H0, O, en, R, q⟩ => q O σ H R Mv.refl
theorem c_one (h : PS X st (tS3 fr X.K W ow oN oB u)) : PSs X [st] (tS3 fr X.K W ow oN oB u) := pss_one h
theorem c_cons (h : PS X st (tS3 fr X.K W ow o1 oB u)) (k : PSs X rest (tS3 fr X.K W o1 oN oB v)) : PSs X (st :: rest) (tS3 fr X.K W ow oN oB (seq u v)) :=
  PSs.of (pss_cons h k) fun D σ H ⟨A, H0, O, en, R, q⟩ => ⟨A, H0, O, en, R, (Out.bind q).good fun f q1 => by
    cases f with
    | next e' => exact fun O' σ' H' R' mv => ⟨A, H0, O', e', R', q1.good fun f q2 => q2.to mv⟩
    | ret d => exact q1
    | brk e' => exact q1
    | cnt e' => exact q1⟩
/-- names give up what they own -/
theorem c_cut (h : PSs X rest (tS3 fr X.K W o1 oN oB v)) (h1 : ∀ i, o1 i = true → ow i = true) (h0 : ow 0 = true → o1 0 = true) (hx : XLe o1 ow := by first | exact Or.inl rfl | exact XLe.refl | exact Or.inr ⟨rfl, by intro q z; cases z; intro _; rfl⟩) : PSs X rest (tS3 fr X.K W ow oN oB v) :=
  PSs.of h fun D σ H ⟨A, H0, O, en, R, q⟩ => ⟨A, H0, _, en, R.part h1 h0 hx, q.good fun f q1 => q1.to (Mv.less cut_less)⟩
theorem c_end (h : PS X st (tS3 fr X.K W ow o1 oB u)) (h1 : ∀ i, oN i = true → o1 i = true) (h0 : o1 0 = true → oN 0 = true) (hx : XLe oN o1 := by first | exact Or.inl rfl | exact XLe.refl | exact Or.inr ⟨rfl, by intro q z; cases z; intro _; rfl⟩) : PS X st (tS3 fr X.K W ow oN oB u) :=
  PS.of h fun D σ H ⟨A, H0, O, en, R, q⟩ => ⟨A, H0, O, en, R, q.good fun f q1 => q1.le h1 h0 (fun _ z => z) (fun z => z) hx XLe.refl⟩
/-- a name gets a new object of its own -/
theorem c_own {i : Nat} (h : PS X st (tAsg (tF X.K W ow m) (gName i))) (hi : ow i = false) (hN : ∀ j, oN j = (j == i || ow j)) (h0 : 0 < i := by decide) (hx : XLe oN ow := by first | exact Or.inl rfl | exact XLe.refl | exact Or.inr ⟨rfl, by intro q z; cases z; intro _; rfl⟩) : PS X st (tS3 fr X.K W ow oN oB (asg (gnm i) m)) :=
  PS.of h fun D σ H ⟨A, H0, O, en, R, q⟩ => ⟨A, H0, O, en, R, ((Out.bind q).se R).good fun d q1 a H1 n s1 r1 => by
    have hNi : oN i = true := by rw [hN]; simp
    have hxi : ∀ q, oN.x = some q → q.i ≠ i := fun q hq z => by
      rcases hx with hx | ⟨hx, _⟩
      · rw [hx] at hq
        cases hq
      · have z2 := (R.exq q (hx ▸ hq)).own
        rw [z, hi] at z2
        cases z2
    obtain ⟨R2, mv⟩ := (R.opens hi hN hx).take s1 hxi hNi h0 n r1
    rw [List.set_set] at R2
    exact q1 _ _ H1 R2 mv⟩
theorem c_if (hc : PT X a (tT X.K W ow t)) (hb : PSs X body (tS3 fr X.K W ow oN oB u)) (ho : PSs X orelse (tS3 fr X.K W ow oN oB v)) : PS X (.If a body orelse pos) (tS3 fr X.K W ow oN oB (ite t u v)) :=
  PS.of (ps_if hc hb ho) fun D σ H ⟨A, H0, O, en, R, q⟩ => ⟨A, H0, O, en, R, ((Out.bind q).se R).good fun k q1 H1 s1 => by
    cases k with
    | true =>
      rw [if_pos rfl] at q1 ⊢
      exact ⟨A, H0, O, en, R.to s1, q1.good fun f q2 => q2.to (Mv.same s1)⟩
    | false =>
      rw [if_neg (by decide)] at q1 ⊢
      exact ⟨A, H0, O, en, R.to s1, q1.good fun f q2 => q2.to (Mv.same s1)⟩⟩
end
end Py
/-! Defs that give back a new list: their caller owns it. -/
namespace Py
variable [WI]
open PySem L2
section
variable {X : Cx} [CW X] {W : WX} {ow oN oB : Ow} {a : Expr} {m : EM} {pos : Pos}
theorem OwnG.at {K : Frag} {A : AS} {G : GW} {H : Hp} {a : Addr} {d : D} (h : OwnG K A G H a d) (l : (∃ xs, d = .lst xs) ∨ ∃ t kvs, d = .dic t kvs) : OwnAt K A H a d := by
  rcases l with ⟨xs, rfl⟩ | ⟨t, kvs, rfl⟩ <;> exact h
end
def spF (K : Frag) (p : Nat) (m : List D → Res D) : Sp := fun vs H Q E => ∃ A ds, RepL K A H ds vs ∧ ds.length = p ∧ (∀ a, A a → H a ≠ none) ∧
  Out (m ds) (fun d => (d = .non → ∀ H', Same H H' → Q .non H') ∧ ∀ a H', H a = none → Same H H' → OwnAt K (fun b => A b ∨ b = a) H' a d → Q (.ref a) H') (fun c fs => ∀ da H' fvs, Same H H' → H' da = some (.xd fvs) → RepF K A H' fs fvs → E (.ref (ca K c)) (some da) H')
theorem spF_le {K : Frag} {p : Nat} {m : List D → Res D} {vs : List V} {H : Hp} {Q : VK} {E : XK} (h : spM K p m vs H Q E) : spF K p m vs H Q E := by
  obtain ⟨A, ds, r, hl, ha, q⟩ := h
  refine ⟨A, ds, r, hl, ha, q.good fun d k => ⟨fun e H' s => ?_, fun a H' n s o => k (.ref a) H' s ?_⟩⟩
  · subst e
    exact k .non H' s rfl
  · have na : ¬ A a := fun z => ha a z n
    have mv : Mv (fun b => A b ∨ b = a) H' A H' := Mv.less fun b x => .inl x
    exact o.rep mv na
/-- the name x calls a def that gives back a new list -/
def CallF (P : Program) (w : World) (K : Frag) (mg : Str → Option Value) (base : Heap) (k : Nat) (x : Str) (d : He.DefD) (ps : List Str) (n : Nat) (fm : List D → Res D) : Prop := ∃ f fd, mg x = some (.ref f) ∧ PySem.W.keepIn K (.ref f) = true ∧ Binds K fd ps [] ∧ FnOk P w K mg base (L2N.CX P w) k f fd ps (spF K n fm) ∧ Ar n fm ∧ FunD K d.name d.qual d.params d.body d.scope [] [] f fd
theorem CallF.le {P : Program} {w : World} {K : Frag} {mg : Str → Option Value} {base : Heap} {k : Nat} {x : Str} {d : He.DefD} {ps : List Str} {n : Nat} {fm : List D → Res D} (C : CallF P w K mg base k x d ps n fm) : CallOk P w K mg base k x d ps n fm := by
  obtain ⟨f, fd, h1, h2, h3, h4, h5⟩ := C
  exact ⟨f, fd, h1, h2, h3, h4.imp fun _ _ _ _ z => spF_le z, h5⟩
end Py
/-! More expressions. -/
/-! The __init__ of an own exception: super().__init__(..), then its fields. -/
namespace Py
open PySem L2 PyProof.Rows
/-- an exception's __init__ that keeps what it is given, under these names -/
def spX (C : Addr) (n : Nat) (fs : List Str) : Sp := fun vs H Q E => ∃ a H1 ws, vs = .ref a :: ws ∧ H = upd H1 a (exo a C none) ∧ H1 a = none ∧ ws.length = n ∧
  ∀ d H2, H2 a = some (exo a C (some d)) → H2 d = some (exd d (fs.zip ws).reverse) → H1 d = none → d ≠ a → (∀ b, b ≠ a → b ≠ d → H2 b = H1 b) → Q .non H2
/-- what the written part tells of the class C whose __init__ is f -/
structure XIn (P : Program) (K : Frag) (C f cc cda : Addr) (nm qual : Str) (params : Arguments) (body : List Stmt) (scope : Scope) (fd : FuncData) : Prop where
  fn : ∃ (oc : Value) (od : Option Addr) (dV kV doc pm : Value) (an : Option Addr) (ct : Value) (osl : Array (Option Value)),
    fd = PySem.W.ksFn nm qual params body scope dV kV doc pm an (.ref cda) ct cc ∧ K.lookup f = some ⟨oc, od, .func fd, osl⟩
  cd : PySem.W.codeIn K (.ref cda) qual = true
  fl : ∃ (ccl : Value) (cdd : Option Addr) (vs : Array Value) (ccs : Array (Option Value)) (file : Str) (tf : Tok), K.lookup cda = some ⟨ccl, cdd, .fields vs, ccs⟩ ∧ vs[2]? = some (.str file tf) ∧ ((P.main.file : Str) == file) = true
  cell : ∃ (cl : Value) (cld : Option Addr) (csl : Array (Option Value)), K.lookup cc = some ⟨cl, cld, .cell (some (.ref C)), csl⟩
  T : OexC K C
  sup : PySem.W.ks_superIn K C C "__init__" = some (some (.builtin "ValueError.__init__"))
  ve : PySem.W.subIn K (.ref C) (.type "ValueError") = some true
  me : PySem.W.mroIn K C (.ref C) = some true
  thi : PySem.W.nsIn K cStatics "thirdparty.any" = some none
theorem oexC_cd {K : Frag} {C : Addr} (T : OexC K C) : ∃ (cd : ClassData) (dd : Option Addr) (sl : Array (Option Value)), PySem.W.clsIn K C = some cd ∧ K.lookup C = some ⟨.type "type", dd, .cls cd, sl⟩ := by
  obtain ⟨nm, q, N, bs, bm, sn, sub, ab, col, dd, k0, k1, k2, k3, k5, hC, hbm⟩ := T.cls
  exact ⟨_, dd, _, by unfold PySem.W.clsIn; rw [hC] <;> rfl, hC⟩
theorem hv_super : bootBuiltins "super" = some (.type "super") := by decide +kernel
section
variable {P : Program} {w : World} {K : Frag} {mg : Str → Option Value} {base : Heap} {C f cc cda : Addr} {nm qual self txt : Str} {params : Arguments} {body rest : List Stmt} {scope : Scope} {fd : FuncData} {N ps fs : List Str} {k : Nat} {ar : Arg}
theorem callWith_kxs {M : Model} {A : Around} {E : Value → Shared → Prop} {s : Shared} {i : String} {u x : Addr} {pos : Pos} {env : PySem.Env} {e : Expr} {es : List Expr} {Q : Value → Shared → Prop}
    (h : wpAny M A (spliced (backTo pos (starEach (e :: es) env))) (fun vs s₁ => PySem.W.KxsAt i u x s₁.heap ∧ wpAny M A (PySem.call (.ref u) vs) Q E s₁) E s)
    (he : starEach (e :: es) env = (false, eval e env) :: starEach es env := by rfl) (hplain : (backTo pos (starEach es env)).any (·.1) = false := by rfl) :
    wpAny M A (callWith pos (.ref u) [] (backTo pos (starEach (e :: es) env)) []) Q E s := by
  rw [he] at h ⊢
  refine PySem.W.kxs_callWith (i := i) (x := x) (by show (false || (backTo pos (starEach es env)).any (·.1)) = false; rw [hplain]; rfl) ?_
  exact PySem.Calls.evalArgs_plain h
/-- super().__init__(..) called: the object keeps its shape -/
theorem kxs_done {X : Cx} {pins : List (Addr × Obj)} {σ : L2.St} {H : Hp} {s : Shared} {A : Around} {E : Value → Shared → Prop} {u a C : Addr} {us : List Value} {Q : Value → Shared → Prop} (T : OexC X.K C) (I : Inv X pins σ H s) (e : H a = some (exo a C none)) (hu : s.heap.get? u = some (PySem.W.kxs_mw "ValueError.__init__" a))
    (hl : us.length ≤ sizeLine) (h : ∀ s', Inv X pins σ H s' → Q .none s') : wpAny (model X.prog X.w) A (PySem.call (.ref u) us) Q E s := by
  obtain ⟨nm, q, N, bs, bm, sn, sub, ab, col, dd, k0, k1, k2, k3, k5, hC, hbm⟩ := T.cls
  obtain ⟨t1, ho⟩ := exo_at I.hok e
  have hCh := I.kIn _ _ hC
  obtain ⟨hp, g, d, t, os⟩ := s
  refine wpAny_call (codeAny_of_tree ?_)
  show wpAny _ A.in1 (callAny (.ref u) ⟨us, []⟩) _ _ _
  simp only [callAny]
  refine wpAny_bind (wpAny_load hu ?_)
  simp only [PySem.W.kxs_mw, show (Value.type "method-wrapper" == Value.type "method" || Value.type "method-wrapper" == Value.type "builtin_function_or_method" || Value.type "method-wrapper" == Value.type "method-wrapper") = true by decide, if_true]
  refine PySem.W.KFB.if_so (by decide) ?_
  refine wpAny_bind (PySem.W.check_bound_init PySem.F.excBase_ValueError.toExcCallFacts hCh ho rfl ?_)
  refine wpAny_bind (wpAny_pure (wpAny_pure ?_))
  refine ⟨plainId_quiet PySem.F.excBase_ValueError.init.plain _, codeAny_builtin PySem.F.excBase_ValueError.initEntry ?_⟩
  refine PySem.W.exc_init_tree (cls := .ref C) (t0 := t1) (dv := none) (c2 := .none) (c3 := .none) (b4 := .bool false) ho hl fun h' kp hx ht => ?_
  have J := I.write (t' := t) (x := a) (e := a) (o := exo a C none) (by rw [e]; exact True.intro) (.inl rfl) kp ⟨_, hx⟩ (exo_ok hx)
  have eu : upd H a (exo a C none) = H := by
    funext b
    by_cases hb : b = a
    · rw [hb, upd_same, e]
    · rw [upd_ne hb]
  rw [eu] at J
  exact h _ J
theorem xinit_ok {n : Nat} (XI : XIn P K C f cc cda nm qual params body scope fd) (hps : ps = self :: fs) (hlen : fs.length = n) (S : NdefX.NScope N ps ["__class__"] scope) (har : (params.posonlyargs ++ params.args).head? = some ar) (hself : ar.arg = self)
    (hmg : mg "super" = none) (hsk : scope.names.lookup ("super" : Str) = some .globalImplicit) (htop : (P.main.scope.names.lookup ("super" : Str)).isSome = false)
    {p0 p1 p2 p3 p4 p5 : Pos} {j : Nat}
    (hbody : body = .Expr (.Call (.Attribute (.Call (.Name "super" p0) [] [] p1) "__init__" p2) [.Constant (.str txt) j p3] [] p4) p5 :: rest)
    {t : TS} (hb : ∀ (A : Around) (outer : List PySem.Env) (s : Shared) (H : Hp) (E : XK), PSs (NdefX.ncx (L2N.CX P w) P w K mg base N ⟨nm, qual, params, body, scope, [("__class__", cc)], cda⟩ f A outer s H E) rest t)
    (ht : ∀ (a : Addr) (ws : List V) (H1 : Hp) (D : Ends) (σ : L2.St), σ[0]? = some (some (.ref a)) → (∀ i v, ws[i]? = some v → σ[i + 1]? = some (some v)) → ws.length = n → H1 a = none →
      (∀ d H2 σ', H2 a = some (exo a C (some d)) → H2 d = some (exd d (fs.zip ws).reverse) → H1 d = none → d ≠ a → (∀ b, b ≠ a → b ≠ d → H2 b = H1 b) → D.nx σ' H2) → t D σ (upd H1 a (exo a C none)))
    (hin : ∀ (L : Addr), interactive (PySem.W.ksEnv qual scope L f (.ref cda) cc) = false := by intro _; rfl)
    (hsw : ∀ (L : Addr), swapsWith (.Call (.Attribute (.Call (.Name "super" p0) [] [] p1) "__init__" p2) [.Constant (.str txt) j p3] [] p4) none p5.line (PySem.W.ksEnv qual scope L f (.ref cda) cc) = pure false := by intro _; rfl)
    {pl : Sem Bool} (hea : ∀ (L : Addr), eval (.Call (.Attribute (.Call (.Name "super" p0) [] [] p1) "__init__" p2) [.Constant (.str txt) j p3] [] p4) (PySem.W.ksEnv qual scope L f (.ref cda) cc) = (do
      let ov ← attributeBase (.Call (.Name "super" p0) [] [] p1) "__init__" (PySem.W.ksEnv qual scope L f (.ref cda) cc) (eval (.Call (.Name "super" p0) [] [] p1) (PySem.W.ksEnv qual scope L f (.ref cda) cc))
      standAt p2.atName
      let (g, first) ← holding [ov] (getMethod ov "__init__" pl)
      callWith p4 g first (backTo p4 (starEach [.Constant (.str txt) j p3] (PySem.W.ksEnv qual scope L f (.ref cda) cc))) []) := by intro _; rfl)
    (hst : ∀ (L : Addr), starEach [.Constant (.str txt) j p3] (PySem.W.ksEnv qual scope L f (.ref cda) cc) = [(false, eval (.Constant (.str txt) j p3) (PySem.W.ksEnv qual scope L f (.ref cda) cc))] := by intro _; rfl) :
    FnOk P w K mg base (L2N.CX P w) (k + 1) f fd ps (spX C n fs) := by
  subst hps
  obtain ⟨oc, od, dV, kV, doc, pm, an, ct, osl, rfl, lk⟩ := XI.fn
  obtain ⟨ccl, cdd, cvs, ccs, file, tf, hcode, hvs, hfile⟩ := XI.fl
  obtain ⟨cl, cld, csl, hcell⟩ := XI.cell
  obtain ⟨cdC, ddC, slC, hcls, hClk⟩ := oexC_cd XI.T
  have len : ∀ vs H Q E, spX C n fs vs H Q E → vs.length = (self :: fs).length := fun vs H Q E ⟨a, H1, ws, e, _, _, l, _⟩ => by
    rw [e, List.length_cons, List.length_cons, l, hlen]
  refine ⟨len, fun A outer s H args us vs Q E hr e0 hbi r hsp => ?_⟩
  have hl := len _ _ _ _ hsp
  obtain ⟨a, H1, ws, rfl, rfl, ha, hwl, q⟩ := hsp
  have KX : K.In s.heap := e0.mod.kin.keeps fun b o e => (e0.bs b o e).1
  have lim : s.heap.NoLimit := e0.mod.nolimit.keeps fun b o e => (e0.bs b o e).1
  refine ks_codeAny_call_defAt (binds := (self :: fs).zip us) (body := body) hr.depth (KX _ _ lk) rfl lim (PySem.W.codeRec_of KX XI.cd) rfl hbi S.nocell (fun ⟨m, _⟩ hy => S.par m (List.of_mem_zip hy).1) (fun h₁ hns kp => ?_) S.co S.gen S.kind
  have hbase : K.In base := e0.mod.kin
  have hcB : base.get? cc = some ⟨cl, cld, .cell (some (.ref C)), csl⟩ := hbase _ _ hcell
  have CA : NdefX.CellsAt [("__class__", cc)] ["__class__"] [none] s.heap (upd H1 a (exo a C none)) := by
    refine ⟨rfl, fun y c e => ?_, fun x y c e1 e2 => ?_, fun i y e => ?_⟩
    · have hc : c = cc := by
        have := PySem.mem_of_lookup e
        simpa using (Prod.mk.inj (List.mem_singleton.mp this)).2
      subst hc
      exact ⟨(e0.bs _ _ hcB).2, _, _, (e0.bs _ _ hcB).1, rfl⟩
    · have h1 := (Prod.mk.inj (List.mem_singleton.mp (PySem.mem_of_lookup e1))).1
      have h2 := (Prod.mk.inj (List.mem_singleton.mp (PySem.mem_of_lookup e2))).1
      exact h1.trans h2.symm
    · cases i with
      | zero =>
        simp only [List.getElem?_cons_zero, Option.some.injEq] at e
        subst e
        exact ⟨cc, rfl, fun v z => by simp at z⟩
      | succ i => simp at e
  have I := NdefX.inv_startN (CX := L2N.CX P w) (f := f) (E := E) (F := ⟨nm, qual, params, body, scope, [("__class__", cc)], cda⟩) (tk := s.toks + ((self :: fs).zip us).length) S hr.hd e0 hl r CA hns kp
  obtain ⟨u0, us', rfl, ru0⟩ : ∃ u0 us', us = u0 :: us' ∧ L2.RelV (.ref a) u0 := by
    cases r with
    | cons r1 r2 => exact ⟨_, _, rfl, r1⟩
  obtain rfl : u0 = Value.ref a := ru0
  have hv : ((self :: fs).zip (Value.ref a :: us')).reverse.lookup self = some (.ref a) := by
    have nd : (self :: fs).Nodup := by
      have q := S.nd.sublist (List.take_sublist ((self :: fs).length + (["__class__"] : List Str).length) N)
      rw [S.pre] at q
      exact (List.nodup_append.mp q).1
    exact NdefX.zip_look (i := 0) nd rfl rfl
  have ea : (upd H1 a (exo a C none)) a = some (exo a C none) := upd_same
  subst hbody
  refine ks_wpAt_execs_cons (ks_wpAt_Expr_any (ks_wpAt_MethodCall (pl := pl) ?_ (hea _)) (hin _) (hsw _))
  refine ks_wpAt_super_base (f := f) (cc := cda) (ar := ar) hsk (S.frk _ List.mem_cons_self) rfl rfl (I.kIn _ _ lk) rfl har rfl (I.kIn _ _ hcode) rfl hvs hfile htop ?_
  obtain ⟨mb, hmb, hmb2⟩ := I.mod.blt
  refine PySem.W.ks_loadName_global S.kind hsk (PySem.Calls.loadGlobal_builtin (I.mod.glob.keeps I.bk) hmg (hmb.keeps I.bk) ((hmb2 "super" (by decide)).trans hv_super) ⟨rfl, ?_⟩)
  refine wpAny_loadName_free S.kind (S.frk _ List.mem_cons_self) rfl ⟨_, I.kIn _ _ hcell, rfl⟩ ?_
  refine wpAny_loadName_local S.kind (by rw [hself]; exact S.par _ List.mem_cons_self) hns (by rw [hself]; exact hv) ?_
  refine ks_wpAny_isType_cls (I.kIn _ _ hClk) rfl ⟨rfl, ?_⟩
  obtain ⟨t1, hat⟩ := exo_at I.hok ea
  refine ks_wpAny_call_super (I.kIn _ _ hClk) rfl hat rfl (fun c z => nomatch z) (PySem.W.looks_mroIn I.kIn XI.me) fun h2 hso kp2 => ?_
  have I2 := I.kept (t' := s.toks + ((self :: fs).zip (Value.ref a :: us')).length) kp2
  have hmr : PySem.W.Looks (model P w) h2 (mroOf (.ref C)) cdC.mro := fun A Q E s k q => wpAny_bind ((PySem.W.looks_clsIn I2.kIn hcls) A _ E s k (wpAny_pure q))
  have hsup := XI.sup
  unfold PySem.W.ks_superIn at hsup
  rw [hcls] at hsup
  have hat2 := kp2 _ _ hat
  have hIA : PySem.W.InstAt h2 a { cls := .ref C, dict := none, data := .fields #[.ref t1, .none, .none, .none, .bool false, .none] } C none := ⟨hat2, rfl, rfl, trivial⟩
  refine PySem.W.kxs_getMethod PySem.W.kxs_ValueError hso (PySem.W.looks_opaque I2.kIn XI.thi) hmr rfl I2.kIn hsup (hIA.type.andThen (PySem.W.looks_subIn I2.kIn XI.ve)) (PySem.W.ks_ne I2.kIn hIA hcls) (by decide) ?_
  have kp3 : ∀ b o, h2.get? b = some o → (h2.push (PySem.W.kxs_mw "ValueError.__init__" a)).get? b = some o := fun b o e => Heap.get?_push_of_some _ e
  have hu : (h2.push (PySem.W.kxs_mw "ValueError.__init__" a)).get? h2.objs.size = some (PySem.W.kxs_mw "ValueError.__init__" a) := Heap.get?_push_size _ rfl
  have I3 := I2.kept (t' := s.toks + ((self :: fs).zip (Value.ref a :: us')).length + 1) kp3
  have I4 := I3.pins_of (pins' := [(h2.objs.size, PySem.W.kxs_mw "ValueError.__init__" a)]) fun p hp => by
    obtain rfl := List.mem_singleton.mp hp
    exact ⟨hu, I2.hok.fresh (Nat.le_refl _), Nat.ne_of_gt I2.lt, I2.nofs (Nat.le_refl _), fun v z => nomatch z⟩
  refine callWith_kxs (i := "ValueError.__init__") (u := h2.objs.size) (x := a) ?_ (hst _) rfl
  have ha1 := (pa_cons (pe_str (x := txt) (j := j) (pos := p3)) pa_nil (hst s.heap.objs.size)).run p4 _ _ _ _ (fun vs H2 => vs.length ≤ sizeLine ∧ H2 = upd H1 a (exo a C none)) I4 ⟨by rw [sizeLine_eq]; simp, rfl⟩
  refine wpAny_mono ha1 (fun us2 s2 ⟨vs, H2, I5, r5, hl5, e5⟩ => ?_) fun e s' z => z
  subst e5
  have hu5 := (I5.pin (h2.objs.size, PySem.W.kxs_mw "ValueError.__init__" a) (List.mem_append_right _ List.mem_cons_self)).1
  refine ⟨hu5, ?_⟩
  refine kxs_done XI.T I5 ea hu5 (by rw [← r5.length]; exact hl5) fun s' I6 => ?_
  refine PySem.wpAt_of_wpAny ?_
  have I' := I6.unpinned (pins := []) 
  refine wpAny_mono ((hb A outer s (upd H1 a (exo a C none)) E).run [] _ _ _ { nx := fun _ H' => Q .non H', rt := fun _ _ => False } I' (ht a ws H1 _ _ rfl (fun i v hi => ?_) hwl ha fun d H2 σ' k1 k2 k3 k4 k5 => q d H2 k1 k2 k3 k4 k5)) (fun fl s' hs => ?_) fun e s' hs => hs
  · unfold NdefX.startF
    have hi2 := (List.getElem?_eq_some_iff.mp hi).1
    rw [List.getElem?_append_left (by simpa using hi2)]
    simp [hi]
  · cases fl with
    | next =>
      obtain ⟨σ', H', J, q⟩ := hs
      exact ⟨.non, H', J.os, J.bare, J.base, J.hok, rfl, q⟩
    | ret u =>
      obtain ⟨_, _, _, _, _, q⟩ := hs
      exact q.elim
    | brk =>
      obtain ⟨_, _, _, q⟩ := hs
      exact False.elim q
    | cont =>
      obtain ⟨_, _, _, q⟩ := hs
      exact False.elim q
end
variable [WI]
section
variable {X : Cx} [CW X] {CX : CXT} {x : Str} {C fI : Addr} {k : Nat} {fd : FuncData} {ps : List Str} {sp : Sp} {e : Expr} {es : List Expr} {ta : TA} {p pos : Pos}
/-- C(e, ..) makes an error that came out of nothing -/
theorem pmkN (T : OexC X.K C) (iC : PySem.W.findIn X.K (.ref C) "__init__" = some (some (.ref fI))) (tI : PySem.W.typeIn X.K (.ref fI) = some (.type "function"))
    (F1 : FnOk X.prog X.w X.K X.mg X.base CX k fI fd ps sp) (hr : Room (k + 1) X.A) (hb : Binds X.K fd ps []) (hx : Passes CX X (fun _ _ _ => False)) (hg : Gl X x) (hm : X.mg x = some (.ref C)) (ha : PA X (e :: es) ta)
    (hdb : (x == ("__debug__" : Str)) = false) (he : starEach (e :: es) X.env = (false, eval e X.env) :: starEach es X.env) (hpl : (backTo pos (starEach es X.env)).any (·.1) = false) :
    L2N.PMk X (.Call (.Name x p) (e :: es) [] pos) (tMkO C sp [] ta) := by
  intro pins s0 σ H Q I h
  have key : ∀ (us : List Value) (s : Shared), (∃ (vs : List V) (H1 : Hp), Inv X pins σ H1 s ∧ Vals vs us ∧ vs.length ≤ 1000 ∧ ∀ a, H1 a = none → sp (.ref a :: (vs ++ [])) (upd H1 a (exo a C none))
      (fun v H2 => v = .non ∧ ∃ (d : Addr) (fs : List (Str × V)), H2 a = some (exo a C (some d)) ∧ H2 d = some (exd d fs) ∧ H1 d = none ∧ Q (.ref C) (some d) (upd (del H2 a) d (.xd fs))) (fun _ _ _ => False)) →
      wpAny (model X.prog X.w) X.A (PySem.call (.ref C) us) (L2N.MkP X pins σ Q) X.xe s := by
    rintro us ⟨hp, g, dr, tk, os⟩ ⟨vs, H1, I1, r1, hz, q1⟩
    obtain ⟨nm, q, N, bs, bm, sn, sub, ab, col, dd, k0, k1, k2, k3, k5, hC, hbm⟩ := T.cls
    have hus : us.length ≤ sizeLine := by
      rw [← Paired.length r1, sizeLine_eq]
      omega
    have hsz : hp.objs.size ≤ hp.objs.size + 1 := Nat.le_add_right _ _
    have hq := q1 _ (I1.hok.fresh hsz)
    rw [List.append_nil] at hq
    have kk : ∀ b o, hp.get? b = some o → ((hp.push (PySem.W.kdv_tup us)).push (PySem.HandSPX.excO C hp.objs.size)).get? b = some o := fun b o z => Heap.get?_push_of_some _ (Heap.get?_push_of_some _ z)
    have new : ObjOk X.prog X.w (upd H1 (hp.objs.size + 1) (exo (hp.objs.size + 1) C none)) ((hp.push (PySem.W.kdv_tup us)).push (PySem.HandSPX.excO C hp.objs.size)) (hp.objs.size + 1) (exo (hp.objs.size + 1) C none) := exo_ok (t1 := hp.objs.size) (by heap_get)
    have I2 : Inv X pins σ _ ⟨_, g, dr, tk, os⟩ := I1.laid (t' := tk) kk hsz new
    have r2 : Vals (V.ref (hp.objs.size + 1) :: vs) (Value.ref (hp.objs.size + 1) :: us) := .cons rfl r1
    have hl2 := r2.length.symm.trans (F1.len _ _ _ _ hq)
    have b2 := hb _ (Value.ref (hp.objs.size + 1) :: us) I2.kIn (by rw [List.append_nil]; exact hl2)
    rw [List.append_nil] at b2
    have run := F1.run (X.A.under (.builtin "type.__call__" ⟨.ref C :: us, []⟩)) X.stack _ _ ⟨_, []⟩ _ _ _ _ (hr.make C us []) (I2.env0.make C us []) b2 r2 hq
    refine wpAny_call (PySem.HandSPX.call_own PySem.F.excBase_ValueError (fun Y => PySem.HandSPX.refsVE_contains Y bm hbm) (I1.kIn _ _ hC) (PySem.W.looks_findIn I1.kIn iC) (fun self => PySem.W.bind_fn I1.kIn self tI) hus (codeAny_mono run ?_))
    intro r s' hq'
    match r, hq' with
    | .error er, z => exact hx pins σ _ _ er s' I2 z
    | .ok (.ret u), z =>
      obtain ⟨v, H2, os2, bare2, un2, hok2, rv, ev, d, fs, ea, ed, hd1, q2⟩ := z
      subst ev
      obtain ⟨h2, g2, d2, t2, os'⟩ := s'
      obtain ⟨t0, G, J, kG, ge, hoe, na⟩ := mk_end0 (d2 := d2) (t2 := t2) I1 hsz kk un2 hok2 os2 bare2 ea ed hd1
      refine ⟨rv, ?_⟩
      exact ⟨_, _, _, ⟨G, g2, d2, t2, os'⟩, _, _, some d, rfl, J, kG, ge, hoe, ⟨rfl, rfl, fun ws hv => by cases hv <;> rfl⟩, rfl, rfl, na, rfl, bare2, raises_own T.exC T.tyC, q2⟩
    | .ok .next, z => exact False.elim z
    | .ok .brk, z => exact False.elim z
    | .ok .cont, z => exact False.elim z
  refine wpAny_Call_Name_kw (ld_glob I hg hm ?_ hdb)
  refine PySem.W.callWith_K (h₀ := X.base) I.ok.mod.kin T.kC (thn (ha.run pos pins s0 σ H _ I h) fun us s1 hh => ?_) he hpl
  obtain ⟨vs, H1, I1, r1, z⟩ := hh
  exact ⟨I1.kIn, key us s1 ⟨vs, H1, I1, r1, z⟩⟩
end
end Py
/-! Errors of own classes: what the head tells of them, raise. -/
namespace Py
open PySem L2
open He (Fa DefD Tab FnW)
/-! ### facts -/
theorem oexB_ok {c : String} {K : Frag} (h : oexB c K = true) : ∃ nm q N bs bm sn sub ab col dd k0 k1 k2 k3 k5, K.lookup (ca K c) = some (excClassObj nm q (ca K c) N bs bm true sn sub ab col dd k0 k1 k2 k3 k5 "ValueError.__new__") ∧ PySem.HandSPX.refsVE bm = true := by
  unfold oexB at h
  split at h
  · rename_i dd cd sl ho
    split at h
    · rename_i C' bm k0 k1 k2 k3 n k5 hm hs
      simp only [Bool.and_eq_true, decide_eq_true_eq, Bool.not_eq_true'] at h
      obtain ⟨h1, h2, h3, h4, h5⟩ := h
      obtain ⟨nm, bs, mro, ns, qn, hd, sn, sub, ab, col, del⟩ := cd
      dsimp only at hm h3 h4
      subst hm h3 h4 h1 h2
      have hsl : sl = #[k0, k1, k2, k3, some (.builtin "ValueError.__new__"), k5] := by
        obtain ⟨l⟩ := sl
        simp only at hs
        rw [hs]
      subst hsl
      exact ⟨nm, qn, ns, bs, bm, sn, sub, ab, col, dd, k0, k1, k2, k3, k5, ho, h5⟩
    · cases h
  · cases h
structure ErrF (P : Program) (K : Frag) (c : String) (nm qual : Str) (params : Arguments) (body : List Stmt) (scope : Scope) (fs : List String) : Prop where
  xin : ∃ cc cda fd, XIn P K (ca K c) (He.ma K (ca K c) "__init__") cc cda nm qual params body scope fd ∧ ∃ kV doc pm an ct, fd = PySem.W.ksFn nm qual params body scope .none kV doc pm an (.ref cda) ct cc
  ini : PySem.W.findIn K (.ref (ca K c)) "__init__" = some (some (.ref (He.ma K (ca K c) "__init__")))
  typ : PySem.W.typeIn K (.ref (He.ma K (ca K c) "__init__")) = some (.type "function")
  no : ∀ f ∈ fs, PySem.W.findIn K (.ref (ca K c)) (Str.ofString f) = some none
theorem err_f {P : Program} {K : Frag} {c : String} {d : DefD} {file : Str} {fs : List String} (hat : d.at_ = (Str.ofString c, some ("__init__" : Str))) (hf : ((P.main.file : Str) == file) = true) (e : fnWx K d.at_ = d.val) (h : errB file c d.qual fs K = true) : ErrF P K c d.name d.qual d.params d.body d.scope fs := by
  unfold errB at h
  simp only [Bool.and_eq_true, decide_eq_true_eq, List.all_eq_true] at h
  obtain ⟨hc, ho, h1, h2, h3, h4, h5, h6, h7, h8, h9, h10, h11⟩ := h
  have hfa : He.fAd K d.at_ = He.ma K (ca K c) "__init__" := by rw [hat] <;> rfl
  unfold cloB at hc
  unfold fnWx at e
  rw [hfa] at e
  cases q : K.lookup (He.ma K (ca K c) "__init__") with
  | none =>
    rw [q] at hc
    cases hc
  | some o =>
    obtain ⟨oc, od, dt, osl⟩ := o
    rw [q] at hc e
    cases dt with
    | func fd =>
      obtain ⟨n1, n2, n3, n4, n5, n6, n7, n8, n9, n10, n11, n12, n13, n14, n15⟩ := fd
      have e2 : (some (n1, n2, n3, n4, n5, n6, [], n15) : FnW) = some (d.name, d.qual, d.params, .stmts d.body, d.scope, mainGlobals, [], builtinsNs) := e
      simp only [Option.some.injEq, Prod.mk.injEq, true_and] at e2
      obtain ⟨g1, g2, g3, g4, g5, g6, g8⟩ := e2
      subst g1 g2 g3 g4 g5 g6 g8
      dsimp only at hc
      split at hc
      · rename_i cda y cc
        simp only [Bool.and_eq_true, decide_eq_true_eq] at hc
        obtain ⟨c1, c2, c3, c4, c5⟩ := hc
        subst c1 c2
        split at c4
        · rename_i cl cld D csl hcell
          have hD : D = ca K c := of_decide_eq_true c4
          subst hD
          split at c5
          · rename_i ccl cdd vs ccs hcode
            split at c5
            · rename_i z tf hz
              have hz2 : z = file := of_decide_eq_true c5
              subst hz2
              exact ⟨⟨cc, cda, _, ⟨⟨oc, od, _, n9, n10, n11, n12, n14, osl, rfl, q⟩, c3, ⟨ccl, cdd, vs, ccs, z, tf, hcode, hz, hf⟩, ⟨cl, cld, csl, hcell⟩, ⟨oexB_ok ho, h1, h2, h3, h4⟩, h5, h6, h7, h8⟩, n9, n10, n11, n12, n14, rfl⟩, h9, h10, h11⟩
            · cases c5
          · cases c5
        · cases c4
      · cases hc
    | _ => cases hc
variable [WI]
/-- the name c makes an error that keeps what it is given under the names ns -/
structure ErrOk (P : Program) (w : World) (K : Frag) (mg : Str → Option Value) (base : Heap) (k : Nat) (c : String) (ns : List String) : Prop where
  ex : ∃ f fd ps, mg (Str.ofString c) = some (.ref (ca K c)) ∧ OexC K (ca K c) ∧ PySem.W.findIn K (.ref (ca K c)) "__init__" = some (some (.ref f)) ∧ PySem.W.typeIn K (.ref f) = some (.type "function") ∧ Binds K fd ps [] ∧
    FnOk P w K mg base (L2N.CX P w) k f fd ps (spX (ca K c) ns.length (ns.map Str.ofString))
/-! ### its fields, laid one behind another -/
section
variable {K : Frag} {f g : Str} {C : Addr}
theorem fld_two (T : OexC K C) (hno : PySem.W.findIn K (.ref C) f = some none) (hno2 : PySem.W.findIn K (.ref C) g = some none) {a : Addr} {ws : List V} {H1 : Hp} {D : Ends} {σ : L2.St} (h0 : σ[0]? = some (some (.ref a))) (h1 : ∀ i v, ws[i]? = some v → σ[i + 1]? = some (some v)) (hl : ws.length = 2) (hn : H1 a = none)
    (q : ∀ d H2 σ', H2 a = some (exo a C (some d)) → H2 d = some (exd d (([f, g] : List Str).zip ws).reverse) → H1 d = none → d ≠ a → (∀ b, b ≠ a → b ≠ d → H2 b = H1 b) → D.nx σ' H2) : tSeq (tOst K f (tVar 0) (tVar 1)) (tOst K g (tVar 0) (tVar 2)) D σ (upd H1 a (exo a C none)) := by
  match ws, hl with
  | [v, w], _ =>
    refine ⟨v, h1 0 v rfl, _, h0, a, C, rfl, T, hno, .inl ⟨upd_same, fun dx hdx hne => ?_⟩⟩
    have hdx2 : H1 dx = none := by
      rw [upd_ne hne] at hdx
      exact hdx
    refine ⟨w, h1 1 w rfl, _, h0, a, C, rfl, T, hno2, .inr ⟨dx, [(f, v)], upd_same, ?_, by simp, q dx _ σ ?_ ?_ hdx2 hne fun b hb hd => ?_⟩⟩
    · rw [upd_ne hne, upd_same]
    · rw [upd_ne hne.symm, upd_same]
    · rw [upd_same]
      rfl
    · rw [upd_ne hd, upd_ne hb, upd_ne hd, upd_ne hb]
end
theorem ErrF.T {P : Program} {K : Frag} {c : String} {nm qual : Str} {params : Arguments} {body : List Stmt} {scope : Scope} {fs : List String} (F : ErrF P K c nm qual params body scope fs) : OexC K (ca K c) := by
  obtain ⟨⟨cc, cda, fd, XI, _⟩, _⟩ := F
  exact XI.T
/-! ### raise -/
theorem RepF.append {K : Frag} {A : AS} {H : Hp} : ∀ {fs gs : List (String × D)} {us vs : List (Str × V)}, RepF K A H fs us → RepF K A H gs vs → RepF K A H (fs ++ gs) (us ++ vs)
  | [], gs, us, vs, h, k => by
    simp only [RepF] at h
    subst h
    exact k
  | (n, d) :: fs, gs, us, vs, h, k => by
    simp only [RepF] at h
    obtain ⟨v, r, rfl, h1, h2⟩ := h
    simp only [List.cons_append, RepF]
    exact ⟨v, r ++ vs, rfl, h1, RepF.append h2 k⟩
theorem repF_zip {K : Frag} {A : AS} {H : Hp} : ∀ {ns : List String} {ds : List D} {vs : List V}, RepL K A H ds vs → RepF K A H (ns.zip ds).reverse ((ns.map Str.ofString).zip vs).reverse
  | [], ds, vs, h => by simp [RepF]
  | n :: ns, [], vs, h => by
    simp only [RepL] at h
    subst h
    simp [RepF]
  | n :: ns, d :: ds, vs, h => by
    simp only [RepL] at h
    obtain ⟨v, r, rfl, h1, h2⟩ := h
    simp only [List.zip_cons_cons, List.map_cons, List.reverse_cons]
    refine RepF.append (repF_zip h2) ?_
    simp only [RepF]
    exact ⟨v, [], rfl, h1, rfl⟩
section
variable {fr : Rm} {X : Cx} [CW X] {W : WX} {ow oN oB : Ow} {e : Expr} {es : List Expr} {am : AM} {pos p rpos : Pos} {k j : Nat} {c : String} {ns : List String}
theorem s_raise (T : Ctx X W j) (C : ErrOk X.prog X.w X.K X.mg X.base k c ns) (hk : k + 1 ≤ j) (hg : Gl X (Str.ofString c)) (ha : PA X (e :: es) (aE X.K W ow am)) (hz : ns.length ≤ 1000 := by decide)
    (hdb : (Str.ofString c == ("__debug__" : Str)) = false := by decide) (he : starEach (e :: es) X.env = (false, eval e X.env) :: starEach es X.env := by rfl) (hpl : (backTo pos (starEach es X.env)).any (·.1) = false := by rfl) :
    PS X (.Raise (some (.Call (.Name (Str.ofString c) p) (e :: es) [] pos)) none rpos) (tS3 fr X.K W ow oN oB (rais c ns am)) := by
  obtain ⟨f, fd, ps, hm, TO, hi, ht, hb, F⟩ := C.ex
  refine PS.of (L2N.ps_raise T.calm T.tk (pmkN TO hi ht F (T.hr.mono hk) hb passLN hg hm ha hdb he hpl)) fun D σ H ⟨A, H0, O, en, R, q⟩ => ?_
  refine ⟨A, H0, O, en, R, ((Out.bind (show Out (am en >>= fun ds => if ds.length = ns.length then (Res.exc c (ns.zip ds).reverse : Res Fl) else .stuck) _ _ from q)).se R).good fun ds q1 vs H1 s1 r1 => ?_⟩
  have r2 := paired_rep r1
  by_cases hl : ds.length = ns.length
  · rw [if_pos hl] at q1
    refine ⟨by rw [← r2.length, hl]; exact hz, fun a hn => ⟨a, H1, vs ++ [], by simp, rfl, hn, by simp [← r2.length, hl], fun d H2 k1 k2 k3 k4 k5 => ⟨rfl, d, _, k1, k2, k3, ?_⟩⟩⟩
    have sm : Same H1 (upd (del H2 a) d (.xd ((ns.map Str.ofString).zip (vs ++ [])).reverse)) := fun b o eb => by
      have hba : b ≠ a := ne_of_none eb hn
      have hbd : b ≠ d := ne_of_none eb k3
      rw [upd_ne hbd, del_ne hba, k5 b hba hbd]
      exact eb
    refine (show badS X.K W A H0 c (ns.zip ds).reverse from q1) σ d _ _ (R.same.trans (s1.trans sm)) upd_same ?_
    have r3 : RepL X.K A (upd (del H2 a) d (.xd ((ns.map Str.ofString).zip (vs ++ [])).reverse)) ds (vs ++ []) := by
      have r4 : RepL X.K A _ ds vs := RepL.move (Mv.less (A := AO A O) (A' := A) fun b hb => Or.inl hb) ds vs (RepL.move (Mv.same sm) ds vs r2)
      simpa using r4
    exact repF_zip r3
  · rw [if_neg hl] at q1
    exact q1.elim
end
end Py
/-! Within an except suite, and within what is called there. -/
namespace Py
variable [WI]
open PySem L2 L2H
structure CtxH (X : Cx) (W : WX) (k : Nat) : Prop where
  tk : L2N.Takes X W
  po : PassesOwn (model X.prog X.w) X.A X.env X.xe
  hr : RoomH k X.A
  hot : HotC X
  nd : X.N.Nodup
theorem CtxH.eq {X : Cx} [CW X] {W : WX} {k : Nat} (T : CtxH X W k) : OpR X (compareOp .Eq) (r2 X.K oeq) := y_eq (by have := T.hr.un; omega)
theorem CtxH.ne {X : Cx} [CW X] {W : WX} {k : Nat} (T : CtxH X W k) : OpR X (compareOp .NotEq) (r2 X.K one) := y_ne (by have := T.hr.un; omega)
/-! ### loops over a range -/
/-! ### calls -/
theorem FnH.mono {P : Program} {w : World} {K : Frag} {mg : Str → Option Value} {base : Heap} {CX : CXT} {j k : Nat} {f : Addr} {fd : FuncData} {ps : List Str} {sp : Sp} (F : FnH P w K mg base CX j f fd ps sp) (h : j ≤ k) : FnH P w K mg base CX k f fd ps sp :=
  ⟨F.len, fun A outer s H args us vs Q E p hr => F.run A outer s H args us vs Q E p (hr.mono h)⟩
end Py
/-! try .. except X as e, and what is asked of e. -/
namespace Py
open PySem L2 L2H
/-! ### facts -/
def xcV (K : Frag) (t : String) : V := if t = "ValueError" then .ty "ValueError" else .ref (ca K t)
/-! ### the body: an error leaves the names as they are -/
variable [WI]
def tB (fr : Rm) (K : Frag) (W : WX) (ow oN oB : Ow) (m : SM) : TS := fun D σ H => ∃ A H0 O e, ER K A H0 ow O σ H e ∧ Out (m e) (EndOk3 fr K A H0 oN oB O H D) (badE K W A O σ H)
/-! ### try -/
end Py
/-! What a suite asks of the caught error: isinstance, fields. -/
namespace Py
open PySem L2 L2H
open He (Fa DefD Tab FnW)
/-- a tuple of classes as written, by names -/
inductive XcL (X : Cx) : List Expr → List String → TA → Prop
  | nil : XcL X [] [] tNil
  | cons {e : Expr} {es : List Expr} {t : String} {ts : List String} {r : TA} (h : PE X e (tC (xcV X.K t))) (k : XcL X es ts r) (hs : starEach (e :: es) X.env = (false, eval e X.env) :: starEach es X.env) : XcL X (e :: es) (t :: ts) (tCons (tC (xcV X.K t)) r)
theorem XcL.pa [WI] {X : Cx} [CW X] {es : List Expr} {ts : List String} {r : TA} (h : XcL X es ts r) : PA X es r := by
  induction h with
  | nil => exact pa_nil
  | cons h _ hs ih => exact pa_cons h ih hs
theorem XcL.run [WI] {X : Cx} [CW X] {es : List Expr} {ts : List String} {r : TA} (h : XcL X es ts r) : ∀ {σ : L2.St} {H : Hp} {Q : List V → Hp → Prop}, Q (ts.map (xcV X.K)) H → r σ H Q := by
  induction h with
  | nil => exact fun q => q
  | cons h _ hs ih => exact fun q => ih (Q := fun xs H2 => _) q
/-! ### an error's __init__, by the head -/
section
variable [WI] {P : Program} {w : World} [HW w] {K : Frag} {mg : Str → Option Value} {base : Heap} {nm qual self txt : Str} {params : Arguments} {body rest : List Stmt} {scope : Scope} {N ps : List Str} {k : Nat} {ar : Arg} {c : String} {ns : List String}
theorem err_ok (F : ErrF P K c nm qual params body scope ns) (g : mg (Str.ofString c) = some (.ref (ca K c))) (hmg : mg "super" = none) (htop : (P.main.scope.names.lookup ("super" : Str)).isSome = false) (hps : ps = self :: ns.map Str.ofString) (S : NdefX.NScope N ps ["__class__"] scope)
    (har : (params.posonlyargs ++ params.args).head? = some ar) (hself : ar.arg = self) (hsk : scope.names.lookup ("super" : Str) = some .globalImplicit) {p0 p1 p2 p3 p4 p5 : Pos} {j : Nat}
    (hbody : body = .Expr (.Call (.Attribute (.Call (.Name "super" p0) [] [] p1) "__init__" p2) [.Constant (.str txt) j p3] [] p4) p5 :: rest)
    (hbind : ∀ (kV doc pm : Value) (an : Option Addr) (cdv ct : Value) (cc : Addr) (us : List Value), us.length = ps.length → bindArgs (PySem.W.ksFn nm qual params body scope .none kV doc pm an cdv ct cc) ⟨us, []⟩ = pure (ps.zip us))
    {t : TS} (hb : ∀ (f cc cda : Addr) (A : Around) (outer : List PySem.Env) (s : Shared) (H : Hp) (E : XK), PSs (NdefX.ncx (L2N.CX P w) P w K mg base N ⟨nm, qual, params, body, scope, [("__class__", cc)], cda⟩ f A outer s H E) rest t)
    (ht : ∀ (a : Addr) (ws : List V) (H1 : Hp) (Dn : Ends) (σ : L2.St), σ[0]? = some (some (.ref a)) → (∀ i v, ws[i]? = some v → σ[i + 1]? = some (some v)) → ws.length = ns.length → H1 a = none →
      (∀ d H2 σ', H2 a = some (exo a (ca K c) (some d)) → H2 d = some (exd d ((ns.map Str.ofString).zip ws).reverse) → H1 d = none → d ≠ a → (∀ b, b ≠ a → b ≠ d → H2 b = H1 b) → Dn.nx σ' H2) → t Dn σ (upd H1 a (exo a (ca K c) none)))
    (hin : ∀ (L f cda cc : Addr), interactive (PySem.W.ksEnv qual scope L f (.ref cda) cc) = false)
    (hsw : ∀ (L f cda cc : Addr), swapsWith (.Call (.Attribute (.Call (.Name "super" p0) [] [] p1) "__init__" p2) [.Constant (.str txt) j p3] [] p4) none p5.line (PySem.W.ksEnv qual scope L f (.ref cda) cc) = pure false)
    {pl : Addr → Addr → Addr → Sem Bool} (hea : ∀ (L f cda cc : Addr), eval (.Call (.Attribute (.Call (.Name "super" p0) [] [] p1) "__init__" p2) [.Constant (.str txt) j p3] [] p4) (PySem.W.ksEnv qual scope L f (.ref cda) cc) = (do
      let ov ← attributeBase (.Call (.Name "super" p0) [] [] p1) "__init__" (PySem.W.ksEnv qual scope L f (.ref cda) cc) (eval (.Call (.Name "super" p0) [] [] p1) (PySem.W.ksEnv qual scope L f (.ref cda) cc))
      standAt p2.atName
      let (g, first) ← holding [ov] (getMethod ov "__init__" (pl f cda cc))
      callWith p4 g first (backTo p4 (starEach [.Constant (.str txt) j p3] (PySem.W.ksEnv qual scope L f (.ref cda) cc))) []))
    (hst : ∀ (L f cda cc : Addr), starEach [.Constant (.str txt) j p3] (PySem.W.ksEnv qual scope L f (.ref cda) cc) = [(false, eval (.Constant (.str txt) j p3) (PySem.W.ksEnv qual scope L f (.ref cda) cc))]) :
    ErrOk P w K mg base (k + 1) c ns := by
  obtain ⟨⟨cc, cda, fd, XI, kV, doc, pm, an, ct, hfd⟩, hini, htyp, hno⟩ := F
  refine ⟨_, fd, ps, g, XI.T, hini, htyp, ?_, ?_⟩
  · rw [hfd]
    exact .all (hbind kV doc pm an _ ct cc)
  · exact xinit_ok XI hps (by simp) S har hself hmg hsk htop hbody (hb _ cc cda) ht (fun L => hin L _ _ _) (fun L => hsw L _ _ _) (fun L => hea L _ _ _) (fun L => hst L _ _ _)
end
/-! ### the hook, the facts -/
section
open He
theorem obsYG_eq {n : Nat} {more : Frag → Bool} {fa : List Fa} {fn xf : List DefD} {ts : List Tab} {g : Addr → Option Obj} {s : Shared} (h : ∀ a, g a = s.heap.get? a) : obsYG n more fa fn xf ts g = (hookY n more fa fn xf ts).obs s := by
  have e : g = s.heap.get? := funext h
  rw [e] <;> rfl
end
structure FactsY (fa : List Fa) (fn xf : List DefD) (ts : List Tab) (ms : List (Frag → Bool)) (file : Str) (P : Program) (w : World) (K : Frag) (mg : Str → Option Value) : Prop extends Facts fa fn ts ms w K mg where
  x : (xf.map fun d => fnWx K d.at_) = xf.map DefD.val
  pf : ((P.main.file : Str) == file) = true
  ps : (P.main.scope.names.lookup ("super" : Str)).isSome = false
section
variable {fa : List Fa} {fn xf : List DefD} {ts : List Tab} {ms : List (Frag → Bool)} {file : Str} {P : Program} {w : World} {K : Frag} {mg : Str → Option Value}
theorem FactsY.err (Y : FactsY fa fn xf ts ms file P w K mg) (i j : Nat) {d : DefD} {c : String} {fs : List String} (h : xf[i]? = some d := by rfl) (hat : d.at_ = (Str.ofString c, some ("__init__" : Str)) := by rfl) (hm : ms[j]? = some (errB file c d.qual fs) := by rfl) : ErrF P K c d.name d.qual d.params d.body d.scope fs := by
  refine err_f hat Y.pf ?_ (Y.toFacts.more j hm)
  have e2 : (xf.map fun d => fnWx K d.at_)[i]? = (xf.map DefD.val)[i]? := by rw [Y.x]
  rw [List.getElem?_map, List.getElem?_map, h] at e2
  exact Option.some.inj e2
end
end Py
/-! A tuple so many times. -/
/-! Lists and tuples walked within an except suite; except X as e for an own class X. -/
/-! Dict displays, list(range(..)), max and min of a list, starred items, extend. -/
namespace Py
variable [WI]
open PySem PySem.Spec PyProof.Rows L2
theorem Ctx.inn {X : Cx} [CW X] {W : WX} {k : Nat} (T : Ctx X W k) : OpR X (compareOp .In) (r2 X.K oin) := y_in (by have := T.hr.un; omega)
theorem Ctx.nin {X : Cx} [CW X] {W : WX} {k : Nat} (T : Ctx X W k) : OpR X (compareOp .NotIn) (r2 X.K onotin) := y_notin (by have := T.hr.un; omega)
theorem Ctx.ix {X : Cx} [CW X] {W : WX} {k : Nat} (T : Ctx X W k) : IxR X (r2 X.K oidx) := y_idx (by have := T.hr.un; omega)
theorem Ctx.st {X : Cx} [CW X] {W : WX} {k : Nat} (T : Ctx X W k) : PSet X (rSetX X.K) := set_any (by have := T.hr.un; omega)
theorem CtxH.inn {X : Cx} [CW X] {W : WX} {k : Nat} (T : CtxH X W k) : OpR X (compareOp .In) (r2 X.K oin) := y_in (by have := T.hr.un; omega)
theorem CtxH.nin {X : Cx} [CW X] {W : WX} {k : Nat} (T : CtxH X W k) : OpR X (compareOp .NotIn) (r2 X.K onotin) := y_notin (by have := T.hr.un; omega)
theorem CtxH.ix {X : Cx} [CW X] {W : WX} {k : Nat} (T : CtxH X W k) : IxR X (r2 X.K oidx) := y_idx (by have := T.hr.un; omega)
theorem CtxH.st {X : Cx} [CW X] {W : WX} {k : Nat} (T : CtxH X W k) : PSet X (rSetX X.K) := set_any (by have := T.hr.un; omega)
/-! ### {} and {k: v} -/
/-- nothing held -/
def emp : E3 := ([], #[], 0)
theorem dicT_stay {a : Addr} {es : E3} {P : Program} {w : World} {H : Hp} {h : Heap} (h1 : (a == sysModules) = false) (h2 : es.1.length ≤ sizeLine) {xs : List (NestedKey × Addr × Value)} (p : PT3 es.1 xs) {o : Obj}
    (g1 : h.get? a = some o) (g2 : o.ExactDict) (g3 : o.data = .dict es.2.1 es.2.2) (g4 : es.2.1.toList = xs.map (entW WI.w)) (g5 : (xs.map (·.1)).Nodup) : ObjOk P w H h a (dicT a es) := by
  refine ⟨⟨h1, h2, xs, p, o, g1, g2, g3, g4, g5⟩, ⟨o, g1⟩, ?_⟩
  rintro h1 h2 ⟨y1, y2, xs', y3, o', z1, z2⟩ hk2
  exact ⟨y1, y2, xs', y3, o', hk2 _ z1, z2⟩
theorem dicT_empty {P : Program} {w : World} {H : Hp} (h : Heap) (hb : sysModules < h.objs.size) : ObjOk P w H (h.push { cls := .type "dict", data := .dict #[] }) h.objs.size (dicT h.objs.size emp) :=
  dicT_stay (beq_eq_false_iff_ne.mpr (Nat.ne_of_gt hb)) (Nat.zero_le _) .nil (Heap.get?_push_size _ rfl) ⟨rfl, rfl, rfl⟩ rfl rfl List.nodup_nil
def tDic0 (t : Bool) : TE := fun _ H Q => ∀ p, H p = none → Q (.ref p) (upd H p (if t then dicT p emp else .dK []))
section
variable {X : Cx} [CW X] {W : WX} {ow : Ow} {k v : Expr} {mk mv : EM} {pos : Pos}
theorem pe_dic0 (t : Bool) : PE X (.Dict [] [] pos) (tDic0 t) := by
  cases t with
  | false => exact pe_dnewK
  | true => exact ⟨fun pins s σ H Q I h => wpAny_Dict_empty ⟨.ref s.heap.objs.size, _, I.laid (a := s.heap.objs.size) (o := dicT s.heap.objs.size emp) (t' := s.toks) (fun _ _ q => Heap.get?_push_of_some _ q) (Nat.le_refl _) (dicT_empty s.heap I.big), rfl, h _ (I.hok.fresh (Nat.le_refl _))⟩⟩
theorem f_dic0 (t : Bool) : PE X (.Dict [] [] pos) (tF X.K W ow (dic0 t)) :=
  PE.of (pe_dic0 t) fun σ H Q ⟨A, H0, O, en, R, q⟩ p hp => q p _ hp (new_same hp) (by
    cases t with
    | false => exact .inl ⟨rfl, [], upd_same, by simp [RepK]⟩
    | true => exact .inr ⟨rfl, emp, upd_same, by simp [RepT, emp]⟩)
theorem mv_disp {A : AS} {O : OW} {H2 : Hp} {p : Addr} {u o : HO} (e2 : H2 p = some u) (hu : ¬ still u) : Mv (AO (fun b => A b ∨ b = p) O) H2 (fun b => AO A O b ∨ b = p) (upd H2 p o) := ⟨fun b hb => .inl (by
    rcases hb with (hb | hb) | hb
    · exact .inl (.inl hb)
    · exact .inr hb
    · exact .inl (.inr hb)), fun b o' e hb => by
    rw [upd_ne]
    · exact e
    · intro z
      subst z
      rcases hb with hb | hb
      · exact hb (.inl (.inr rfl))
      · rw [e2] at e
        cases e
        exact hu hb⟩
theorem ER.aside {K : Frag} {A : AS} {H0 : Base} {O : OW} {σ : L2.St} {H : Hp} {e : Env} (R : ER K A H0 ow O σ H e) {p : Addr} {o : HO} (hp : H p = none) : ER K (fun b => A b ∨ b = p) H0 ow O σ (upd H p o) e :=
  R.more (fun b hb => by
    rcases hb with hb | hb
    · exact ne_none (new_same hp) (R.a0 b hb)
    · rw [hb, upd_same]
      exact fun z => nomatch z) (new_same hp) (fun b hb => hb.elim .inl fun z => by rw [z]; exact .inr hp) fun b hb => .inl hb
/-- errors within: seen from before -/
theorem badE.aside {K : Frag} {A : AS} {O : OW} {σ : L2.St} {H : Hp} {p : Addr} {o : HO} (hp : H p = none) {c : String} {fs : List (String × D)} (h : badE K W A O σ H c fs) : badE K W (fun b => A b ∨ b = p) O σ (upd H p o) c fs := fun da H' fvs s hd r =>
  h da H' fvs ((new_same hp).trans s) hd (RepF.move (Mv.less fun b hb => by
    rcases hb with hb | hb
    · exact .inl (.inl hb)
    · exact .inr hb) _ _ r)
/-- {k: v}, k a number or a text -/
theorem f_dicK (hk : PE X k (tE X.K W ow mk)) (hv : PE X v (tE X.K W ow mv)) : PE X (.Dict [some k] [v] pos) (tF X.K W ow (dic1 false mk mv)) :=
  PE.of (pe_disp (pps_cons hk hv pps_nil) rfl rfl (fun z => by cases z) (by simp)) fun σ H Q ⟨A, H0, O, en, R, q⟩ p hp => by
    have R' := R.aside (o := .dK []) hp
    refine ⟨_, H0, O, en, R', ((Out.bind q).imp (fun _ _ z => z) fun c fs z => badE.aside hp z).good fun kd q1 x H1 s1 r1 => ⟨_, H0, O, en, R'.to s1, (((Out.bind q1).imp (fun _ _ z => z) fun c fs z => badE.aside (o := .dK []) hp z).to s1).good fun vd q2 y H2 s2 r2 => ?_⟩⟩
    have e2 : H2 p = some (.dK []) := s2 _ _ (s1 _ _ upd_same)
    refine ⟨e2, ?_⟩
    split at q2
    · rename_i hko
      obtain ⟨c, hc⟩ := keyK hko
      have hx := kv_rep hc r1
      subst hx
      refine ⟨[(c, y)], rfl, by simp, ?_⟩
      have s3 : Same H (upd H2 p (.dK (mergeK [] [(c, y)]))) := fun b o e => by
        rw [upd_ne fun z => by
          subst z
          rw [hp] at e
          cases e]
        exact s2 _ _ (s1 _ _ (new_same hp _ _ e))
      refine q2 p _ hp s3 (.inl ⟨rfl, [(c, y)], by rw [upd_same]; rfl, ?_⟩)
      simp only [RepK]
      exact ⟨c, y, [], rfl, hc, Rep.move (mv_disp e2 fun z => z) _ _ r2, rfl⟩
    · exact q2.elim
end
/-! ### list(range(..)) -/
section
variable {X : Cx} [CW X] {W : WX} {ow : Ow} {a b e : Expr} {es : List Expr} {m ma mb : EM} {am : AM} {pos p p2 : Pos}
theorem rgV_rep {K : Frag} {A : AS} {H : Hp} (lo hi : Int) : RepL K A H (rngL lo hi) (rgV lo hi) := by
  have key : ∀ l : List Nat, RepL K A H (l.map fun i => D.int (lo + (i : Nat))) (l.map fun i => V.int (lo + (i : Nat))) := by
    intro l
    induction l with
    | nil => simp [RepL]
    | cons x l ih =>
      simp only [List.map_cons, RepL]
      exact ⟨_, _, rfl, by simp [Rep], ih⟩
  unfold rngL rgV
  exact key _
theorem new_own {K : Frag} {A : AS} {H : Hp} {p : Addr} {ds : List D} {vs : List V} (hp : H p = none) (r : RepL K A H ds vs) : OwnAt K (fun b => A b ∨ b = p) (upd H p (.lst vs)) p (.lst ds) :=
  ⟨vs, upd_same, RepL.move ⟨fun b hb => by
      rcases hb with hb | rfl
      · exact .inl hb
      · exact .inr hp, fun b o e _ => new_same hp b o e⟩ _ _ r⟩
theorem f_lrng1 (hc : X.calm = true) (hgl : Gl X "list") (hml : X.mg "list" = none) (hg : Gl X "range") (hm : X.mg "range" = none) (ha : PE X a (tE X.K W ow ma)) (hs : starEach [a] X.env = [(false, eval a X.env)] := by rfl)
    (hs2 : starEach [.Call (.Name "range" p) [a] [] p2] X.env = [(false, eval (.Call (.Name "range" p) [a] [] p2) X.env)] := by rfl) {pn : Pos} : PE X (.Call (.Name "list" pn) [.Call (.Name "range" p) [a] [] p2] [] pos) (tF X.K W ow (lrngE (irng1 ma))) :=
  PE.of (pe_listRg hc hgl hml (prg_1 hg hm ha hs) hs2) fun σ H Q ⟨A, H0, O, en, R, q⟩ => ⟨A, H0, O, en, R, (Out.bind (Out.bind q)).good fun d q1 v H1 s1 r1 => by
    cases d with
    | int n =>
      have r1' : v = .int n := r1
      subst r1'
      dsimp only at q1
      split at q1
      · rename_i hz
        have q2 : Out (if (rngL 0 n).length ≤ 1000000 then Res.ok (D.lst (rngL 0 n)) else Res.stuck) _ _ := q1
        split at q2
        · rename_i hl
          have hl2 : (n - 0).toNat ≤ 1000000 := by
            unfold rngL at hl
            simpa using hl
          obtain ⟨z1, z2⟩ := nb62 hz
          refine ⟨n, rfl, ⟨by decide, by decide, z1, z2, by omega⟩, fun q3 hq => q2 q3 _ (s1.free hq) (s1.trans (new_same hq)) (new_own hq (rgV_rep 0 n))⟩
        · exact q2.elim
      · exact q1.elim
    | _ => exact q1.elim⟩
/-! ### starred items -/
theorem rep_paired {K : Frag} {A : AS} {H : Hp} : ∀ {vs : List V} {ds : List D}, RepL K A H ds vs → Paired (fun v d => Rep K A H d v) vs ds
  | vs, [], r => by
    simp only [RepL] at r
    subst r
    exact .nil
  | vs, d :: ds, r => by
    simp only [RepL] at r
    obtain ⟨v, q, rfl, h1, h2⟩ := r
    exact .cons h1 (rep_paired h2)
theorem xa_star (ha : PE X e (tE X.K W ow m)) (hr : PA X es (aE X.K W ow am)) (hs : starEach (.Starred e p :: es) X.env = (true, eval e X.env) :: starEach es X.env := by rfl) : PA X (.Starred e p :: es) (aE X.K W ow (argS m am)) :=
  PA.of (StX.pa_star ha hr hs) fun σ H Q ⟨A, H0, O, en, R, q⟩ => ⟨A, H0, O, en, R, (Out.bind q).good fun d q1 v H1 s1 r1 => by
    have hrep : ∀ {bs : Bool × List D}, seqOf d = some bs → ∃ pa vs, v = .ref pa ∧ (SqT X.K H1 pa vs ∨ SqL X.K H1 pa vs) ∧ RepL X.K (AO A O) H1 bs.2 vs := by
      intro bs hb
      cases d with
      | lst xs =>
        simp only [seqOf, Option.some.injEq] at hb
        subst hb
        obtain ⟨pa, vs, e, n, h, r⟩ := (by simpa only [Rep] using r1 : ∃ a vs, v = .ref a ∧ ¬ AO A O a ∧ Rd H1 a (.lst vs) ∧ RepL X.K (AO A O) H1 xs vs)
        exact ⟨pa, vs, e, .inr (.inl h), r⟩
      | tup xs =>
        simp only [seqOf, Option.some.injEq] at hb
        subst hb
        obtain ⟨pa, vs, e, h, r⟩ := (by simpa only [Rep] using r1 : ∃ a vs, v = .ref a ∧ SqT X.K H1 a vs ∧ RepL X.K (AO A O) H1 xs vs)
        exact ⟨pa, vs, e, .inl h, r⟩
      | _ => simp [seqOf] at hb
    cases hsq : seqOf d with
    | none =>
      rw [hsq] at q1
      exact q1.elim
    | some bs =>
      obtain ⟨pa, vs, rfl, hq, r⟩ := hrep hsq
      rw [hsq] at q1
      obtain ⟨bb, xs⟩ := bs
      exact ⟨pa, vs, rfl, hq, A, H0, O, en, R.to s1, ((Out.bind q1).to s1).good fun ds q2 ws H2 s2 r2 => q2 _ H2 (s1.trans s2) (rep_paired ((RepL.move (Mv.same s2) _ _ r).append (paired_rep r2)))⟩⟩
end
end Py
/-! max, min of a list; extend; ranges with a step. -/
namespace Py
variable [WI]
open PySem PySem.Spec PyProof.Rows L2
/-! ### max, min -/
theorem foldmax : ∀ (is : List Int) (i : Int), (is.foldl (fun a b => if b > a then b else a) i) ∈ i :: is ∧ ∀ j ∈ i :: is, j ≤ is.foldl (fun a b => if b > a then b else a) i
  | [], i => ⟨by simp, fun j hj => by rw [List.mem_singleton.mp hj]; exact Int.le_refl _⟩
  | k :: is, i => by
    simp only [List.foldl_cons]
    obtain ⟨h1, h2⟩ := foldmax is (if k > i then k else i)
    refine ⟨?_, fun j hj => ?_⟩
    · rcases List.mem_cons.mp h1 with h | h
      · rw [h]
        split <;> simp
      · exact List.mem_cons_of_mem _ (List.mem_cons_of_mem _ h)
    · have h0 := h2 _ List.mem_cons_self
      rcases List.mem_cons.mp hj with rfl | hj
      · split at h0 <;> split <;> omega
      · rcases List.mem_cons.mp hj with rfl | hj
        · split at h0 <;> split <;> omega
        · exact h2 j (List.mem_cons_of_mem _ hj)
section
variable {X : Cx} [CW X]
theorem v_maxL (hc : X.calm = true) : CallR X (.builtin "max") (c1 X.K bmaxL) := cimp (cr_max hc) fun xs H Q ⟨x, e0, A, d1, d, h1, ha, e, k⟩ => by
  subst e0
  cases d1 with
  | lst xs =>
    simp only [bmaxL] at e
    split at e
    · rename_i i is hi
      simp only [Res.ok.injEq] at e
      subst e
      obtain ⟨a, vs, rfl, q, r⟩ := h1
      have e1 := ints_of r hi
      subst e1
      obtain ⟨f1, f2⟩ := foldmax is i
      refine ⟨a, i :: is, rfl, .inl q, by simp, fun m hm hle => ?_⟩
      have : m = is.foldl (fun a b => if b > a then b else a) i := by
        have a1 := f2 m hm
        have a2 := hle _ f1
        omega
      rw [this]
      exact k _ H (Same.refl H) (flat_rep rfl _ _)
    · cases e
  | _ => simp [bmaxL] at e
theorem n_maxL : NoEx1 bmaxL := fun x c fs => by
  cases x <;> simp only [bmaxL] <;> first | (split <;> rfl) | rfl
end
/-! ### extend -/
end Py
/-! len(x) by an own __len__. -/
namespace Py
variable [WI]
open PySem PySem.Spec PyProof.Rows L2
/-! ### methods, wherever the error goes -/
section
variable {X : Cx} [CW X] {W : WX} {ow : Ow} {o e : Expr} {es : List Expr} {ma : EM} {am : AM} {pos apos : Pos} {k j n : Nat} {cls mn : String} {fm : List D → Res D}
def tMethS (C : Addr) (m : Str) (sp : Sp) (E : L2.St → XK) (ta : TE) (t : TA) : TE := fun σ H Q => ta σ H fun x H1 => ∃ a dx fs, x = .ref a ∧ H1 a = some (.ins C dx fs) ∧ fs.lookup m = none ∧ t σ H1 fun vs H2 => sp (.ref a :: vs) H2 Q (E σ)
theorem pe_methS {C f : Addr} {fd : FuncData} {ps : List Str} {m : Str} {sp : Sp} {CX : CXT} {E : L2.St → XK} {ta : TE} {t : TA} {pl : Sem Bool} (he : PE X o ta) (c : Cls X.K C) (hm : Meth X.K C m f) (F : FnOk X.prog X.w X.K X.mg X.base CX k f fd ps sp) (hr : Room k X.A) (hb : Binds X.K fd ps []) (hx : ∀ σ, PassesAt CX X σ (E σ)) (ha : PA X (e :: es) t)
    (hst : starEach (e :: es) X.env = (false, eval e X.env) :: starEach es X.env) (hpl : (backTo pos (starEach es X.env)).any (·.1) = false)
    (ht : eval (.Call (.Attribute o m apos) (e :: es) [] pos) X.env = (do
      let ov ← eval o X.env
      standAt apos.atName
      let (f, first) ← holding [ov] (getMethod ov m pl)
      callWith pos f first (backTo pos (starEach (e :: es) X.env)) (backToKw pos (keywordEach [] X.env)))) :
    PE X (.Call (.Attribute o m apos) (e :: es) [] pos) (tMethS C m sp E ta t) := by
  refine ⟨fun pins s σ H Q I h => ?_⟩
  refine PySem.W.methodCall_KW (pl := pl) (thn (he.run pins s σ H _ I h) fun u s1 ⟨x, H1, I1, rx, a, dx, fs, ex, ea, l, q⟩ => ?_) ht
  subst ex
  obtain rfl : u = Value.ref a := rx
  refine getmeth_ok I1 ea c hm l ?_
  refine PySem.W.callWith_K (first := [.ref a]) (h₀ := X.base) I.ok.mod.kin hm.kp (thn (ha.run pos pins s1 σ H1 _ I1 q) fun us s2 ⟨vs, H2, I2, r, q2⟩ => ⟨I2.kIn, ?_⟩) hst hpl
  exact run_fnS (us := .ref a :: us) (vs := .ref a :: vs) F hr hb (hx σ) I2 (.cons rfl r) q2
end
/-! ### statements that never go on -/
section
variable {fr : Rm} {X : Cx} [CW X] {W : WX} {ow o1 oN oB : Ow} {st : Stmt} {u : SM}
def NoNx (u : SM) : Prop := ∀ e e', ¬ Res.leaf (.next e') (u e)
theorem c_stop (hn : NoNx u) (h : PS X st (tS3 fr X.K W ow o1 oB u)) : PS X st (tS3 fr X.K W ow oN oB u) :=
  PS.of h fun D σ H ⟨A, H0, O, en, R, q⟩ => ⟨A, H0, O, en, R, q.imp (fun f l z => by
      cases f with
      | next e' => exact (hn en e' l).elim
      | ret d => exact z
      | brk e' => exact z
      | cnt e' => exact z) fun _ _ z => z⟩
end
end Py
/-! Lists of new lists, filled at drawn places. -/
namespace Py
open PySem L2
/-- lists of numbers, all of them new: where they stand -/
structure Nst (H : Hp) (a : Addr) (as : List Addr) (zss : List (List Int)) : Prop where
  out : H a = some (.lst (as.map V.ref))
  nd : as.Nodup
  no : a ∉ as
  len : as.length = zss.length
  inn : ∀ (k : Nat) (b : Addr) (zs : List Int), as[k]? = some b → zss[k]? = some zs → H b = some (.lst (zs.map V.int))
theorem Nst.same {H H' : Hp} {a : Addr} {as : List Addr} {zss : List (List Int)} (h : Nst H a as zss) (s : Same H H') : Nst H' a as zss :=
  ⟨s _ _ h.out, h.nd, h.no, h.len, fun k b zs h1 h2 => s _ _ (h.inn k b zs h1 h2)⟩
variable [WI]
theorem repL_ints {K : Frag} {A : AS} {H : Hp} : ∀ zs : List Int, RepL K A H (zs.map D.int) (zs.map V.int)
  | [] => rfl
  | z :: zs => ⟨.int z, zs.map V.int, rfl, rfl, repL_ints zs⟩
theorem Nst.rep {K : Frag} {A : AS} {H : Hp} {a : Addr} {as : List Addr} {zss : List (List Int)} (h : Nst H a as zss) (na : ¬ A a) (nb : ∀ b ∈ as, ¬ A b) : Rep K A H (.lst (zss.map fun (zs : List Int) => D.lst (zs.map D.int))) (.ref a) := by
  have key : ∀ (as : List Addr) (zss : List (List Int)), as.length = zss.length → (∀ b ∈ as, ¬ A b) → (∀ (k : Nat) (b : Addr) (zs : List Int), as[k]? = some b → zss[k]? = some zs → H b = some (.lst (zs.map V.int))) → RepL K A H (zss.map fun (zs : List Int) => D.lst (zs.map D.int)) (as.map V.ref) := by
    intro as
    induction as with
    | nil =>
      intro zss hl _ _
      cases zss with
      | nil => rfl
      | cons z zs => simp at hl
    | cons b as ih =>
      intro zss hl hb hi
      cases zss with
      | nil => simp at hl
      | cons zs zss =>
        refine ⟨.ref b, as.map V.ref, rfl, ⟨b, _, rfl, hb b List.mem_cons_self, .inl (hi 0 b zs rfl rfl), repL_ints zs⟩, ih zss (by simpa using hl) (fun c hc => hb c (List.mem_cons_of_mem _ hc)) fun k c ws h1 h2 => hi (k + 1) c ws h1 h2⟩
  exact ⟨a, _, rfl, na, .inl h.out, key as zss h.len nb h.inn⟩
/-- what stands aside may change -/
theorem ER.poke {K : Frag} {A : AS} {H0 : Base} {ow : Ow} {O : OW} {σ : L2.St} {H : Hp} {e : Env} (R : ER K A H0 ow O σ H e) {b : Addr} {vs : List V} {o : HO} (hb : A b) (h0 : H0.hp b = none) (hv : H b = some (.lst vs)) : ER K A H0 ow O σ (upd H b o) e ∧ Mv (AO A O) H (AO A O) (upd H b o) := by
  have mv : Mv (AO A O) H (AO A O) (upd H b o) := ⟨fun c hc => .inl hc, fun c u hc hq => by
    have hne : c ≠ b := fun z => by
      subst z
      rcases hq with hq | hq
      · exact hq (.inl hb)
      · rw [hv] at hc
        cases hc
        exact hq
    rw [upd_ne hne]
    exact hc⟩
  have ne : ∀ c, H c ≠ none → upd H b o c ≠ none := fun c hc => by
    by_cases e : c = b
    · rw [e, upd_same]
      exact fun z => nomatch z
    · rw [upd_ne e]
      exact hc
  refine ⟨⟨R.len, fun c hc => ne c (R.a0 c hc), fun c u hc => ?_, fun i d h1 h2 => let ⟨v, q, r⟩ := R.vals i d h1 h2; ⟨v, q, Rep.move mv _ _ r⟩,
    fun i d h1 h2 => let ⟨a, q, q2, r⟩ := R.owns i d h1 h2; ⟨a, q, q2, r.move mv (upd_ne fun z => (R.fresh _ a q).2.2 (by rw [z]; exact hb)) fun t c z => ⟨z, upd_ne fun w => (R.fresh _ c z).2.2 (by rw [w]; exact hb)⟩⟩, fun i a h => ⟨(R.fresh i a h).1, ne a (R.fresh i a h).2.1, (R.fresh i a h).2.2⟩, R.inj, R.pin, R.exq.heap mv fun da fvs e => ?_⟩, mv⟩
  · rw [upd_ne (ne_of_none hc h0)]
    exact R.same _ _ hc
  · rw [upd_ne]
    · exact e
    · intro z
      rw [z, hv] at e
      cases e
end Py
/-! .. filled by a loop. -/
namespace PySem
open Builtin
end PySem
/-! list(zip(*x)): zip over any number of lists and tuples of one length. -/
namespace Py
open PySem PySem.Spec PyProof.Rows L2
abbrev Col := Bool × Nat × Array Value
def refs (n0 n : Nat) : List Value := (List.range n).map fun m => Value.ref (n0 + m)
/-- a zip over columns at n0: f0, f1: what it knows of the tuple given out -/
structure ZAt (h : Heap) (n0 : Nat) (cs : List Col) (i : Nat → Nat) (f0 f1 : Value) : Prop where
  it : ∀ (m : Nat) (c : Col), cs[m]? = some c → IAt c.1 h (n0 + m) c.2.1 (i m)
  sq : ∀ (m : Nat) (c : Col), cs[m]? = some c → SAt c.1 h c.2.1 c.2.2 ∧ c.2.1 < n0
  ti : h.get? (n0 + cs.length) = some { cls := .type "tuple", data := .seq (refs n0 cs.length).toArray }
  ob : h.get? (n0 + cs.length + 2) = some { cls := .type "zip", data := .fields #[f0, f1, .bool false, .ref (n0 + cs.length), .ref (n0 + cs.length + 1)] }
theorem ZAt.up {h h' : Heap} {n0 : Nat} {cs : List Col} {i : Nat → Nat} {f0 f1 : Value} (z : ZAt h n0 cs i f0 f1) (k : ∀ a o, h.get? a = some o → h'.get? a = some o) : ZAt h' n0 cs i f0 f1 :=
  ⟨fun m c e => (z.it m c e).up (k _), fun m c e => ⟨(z.sq m c e).1.up (k _), (z.sq m c e).2⟩, k _ _ z.ti, k _ _ z.ob⟩
def TOAt (h : Heap) (n0 : Nat) (cs : List Col) : Prop := ∃ vs : Array Value, vs.size = cs.length ∧ h.get? (n0 + cs.length + 1) = some { cls := .type "tuple", data := .seq vs }
end Py
/-! A turn of a zip over any number of columns. -/
namespace Py
open PySem PySem.Spec PyProof.Rows L2
/-- outside the zip's own objects -/
def Off (n0 : Nat) (cs : List Col) (a : Nat) : Prop := a < n0 ∨ n0 + cs.length + 3 ≤ a
def Kp (n0 : Nat) (cs : List Col) (h h' : Heap) : Prop := ∀ (a : Nat) o, Off n0 cs a → h.get? a = some o → h'.get? a = some o
theorem Kp.refl {n0 : Nat} {cs : List Col} {h : Heap} : Kp n0 cs h h := fun _ _ _ e => e
end Py
/-! A zip over any number of columns: further turns, its end, next. -/
namespace Py
open PySem PySem.Spec PyProof.Rows L2
/-- a zip behind i turns; T: the tuple given out last -/
inductive ZSt (h : Heap) (n0 : Nat) (cs : List Col) (i : Nat) : Prop
  | fresh (z : ZAt h n0 cs (fun _ => i) .none (.bool false)) (to : TOAt h n0 cs)
  | held (T : Nat) (f : Bool) (z : ZAt h n0 cs (fun _ => i) (rawInt T) (.bool f)) (hT : ∃ o, h.get? T = some o) (off : Off n0 cs T)
section
variable {prog : Program} {w : World} {A : Around} {E : Value → Shared → Prop} {s : Shared}
theorem ZSt.ty {n0 i : Nat} {cs : List Col} (z : ZSt s.heap n0 cs i) : s.TypeIs (.ref (n0 + cs.length + 2)) "zip" := by
  cases z with
  | fresh z _ => exact ⟨_, z.ob, rfl⟩
  | held T f z _ _ => exact ⟨_, z.ob, rfl⟩
end
end Py
/-! list(z), z a zip just made. -/
namespace Py
open PySem PySem.Spec PyProof.Rows L2
theorem ZSt.up {h h' : Heap} {n0 : Nat} {cs : List Col} {i : Nat} (z : ZSt h n0 cs i) (k : ∀ a o, h.get? a = some o → h'.get? a = some o) : ZSt h' n0 cs i := by
  cases z with
  | fresh z to =>
    obtain ⟨vs, h1, h2⟩ := to
    exact .fresh (z.up k) ⟨vs, h1, k _ _ h2⟩
  | held T f z hT off =>
    obtain ⟨o, hT⟩ := hT
    exact .held T f (z.up k) ⟨o, k _ _ hT⟩ off
end Py
/-! list(zip(*x)) in the mirror; range with a step. -/
namespace Py
open PySem PySem.Spec PyProof.Rows L2
variable [WI]
section
variable {X : Cx} [CW X] {pins : List (Addr × Obj)} {σ : L2.St} {H : Hp} {s : Shared}
/-! ### in the mirror -/
variable {W : WX} {ow : Ow} {a b c e : Expr} {m ma mb mc : EM} {pos p p2 pn sp : Pos} {tg : Expr}
/-! ### range with a step -/
theorem size_up {i j c : Int} (hc : 0 < c) : Builtin.Range.rangeSize i j c = (((j - i + c - 1) / c).toNat : Nat) := by
  unfold Builtin.Range.rangeSize
  rw [if_pos hc]
  by_cases h : i < j
  · rw [if_pos h]
    have e : j - i + c - 1 = (j - i - 1) + 1 * c := by omega
    rw [e, Int.add_mul_ediv_right _ _ (by omega)]
    have := Int.ediv_nonneg (a := j - i - 1) (b := c) (by omega) (by omega)
    omega
  · rw [if_neg h]
    have := Int.ediv_lt_of_lt_mul hc (show j - i + c - 1 < 1 * c by omega)
    omega
theorem small_up {i j c : Int} (h1 : -(2 : Int) ^ 62 ≤ i) (h2 : i < 2 ^ 62) (h3 : -(2 : Int) ^ 62 ≤ j) (h4 : j < 2 ^ 62) (hc : 0 < c ∧ c < 1073741824) : Builtin.Range.small i j c = true := by
  have e62 : (2 : Int) ^ 62 = 4611686018427387904 := by decide
  have hs0 : 0 ≤ Builtin.Range.rangeSize i j c := by rw [size_up hc.1]; omega
  have hs1 : Builtin.Range.rangeSize i j c ≤ 9223372036854775807 := by
    unfold Builtin.Range.rangeSize
    rw [if_pos hc.1]
    by_cases h : i < j
    · rw [if_pos h]
      have := Int.ediv_le_self (a := j - i - 1) c (by omega)
      omega
    · rw [if_neg h]
      omega
  unfold Builtin.Range.small
  generalize Builtin.Range.rangeSize i j c = S at *
  have f : ∀ x : Int, -9223372036854775808 ≤ x → x ≤ 9223372036854775807 → Builtin.Range.rangeFitsLong x = true := fun x a b => by
    unfold Builtin.Range.rangeFitsLong
    have e63 : (2 : Int) ^ 63 = 9223372036854775808 := by decide
    simp
    omega
  rw [f i (by omega) (by omega), f j (by omega) (by omega), f c (by omega) (by omega), f S (by omega) (by omega), if_pos hc.1, f (j + (c - 1)) (by omega) (by omega)]
  simp
theorem size_dn {i j : Int} : Builtin.Range.rangeSize i j (-1) = ((i - j).toNat : Nat) := by
  unfold Builtin.Range.rangeSize
  rw [if_neg (by decide)]
  by_cases h : i > j
  · rw [if_pos h]
    have e : -(-1 : Int) = 1 := rfl
    rw [e, Int.ediv_one]
    omega
  · rw [if_neg h]
    omega
theorem small_dn {i j : Int} (h1 : -(2 : Int) ^ 62 ≤ i) (h2 : i < 2 ^ 62) (h3 : -(2 : Int) ^ 62 ≤ j) (h4 : j < 2 ^ 62) : Builtin.Range.small i j (-1) = true := by
  unfold Builtin.Range.small
  rw [size_dn]
  simp only [Builtin.Range.rangeFitsLong, Bool.and_eq_true, Bool.or_eq_true, decide_eq_true_eq, beq_iff_eq, show ¬ ((-1 : Int) > 0) by decide, if_false]
  omega
theorem size3 {i j c : Int} (h : 0 < c ∨ c = -1) : Builtin.Range.rangeSize i j c = (cnt3 i j c : Nat) := by
  unfold cnt3
  rcases h with h | rfl
  · rw [if_pos h, size_up h]
  · rw [if_neg (by decide), size_dn]
theorem small3 {i j c : Int} (h1 : -(2 : Int) ^ 62 ≤ i) (h2 : i < 2 ^ 62) (h3 : -(2 : Int) ^ 62 ≤ j) (h4 : j < 2 ^ 62) (hc : (0 < c ∨ c = -1) ∧ c < 1073741824) : Builtin.Range.small i j c = true := by
  rcases hc.1 with h | rfl
  · exact small_up h1 h2 h3 h4 ⟨h, hc.2⟩
  · exact small_dn h1 h2 h3 h4
theorem itm_rangeC {K : Frag} {A : AS} {H : Hp} {lo hi c : Int} : Itm Mv K A (Itc lo c (cnt3 lo hi c)) (rng3L lo hi c) H := fun i A2 H2 m => by
  have hl : (rng3L lo hi c).length = cnt3 lo hi c := by unfold rng3L; simp
  rw [hl]
  refine ⟨fun h => ⟨h, fun x H3 ⟨e1, e2⟩ => ?_⟩, fun h => Nat.le_of_eq h.symm⟩
  subst e1 e2
  refine ⟨Same.refl _, .int (lo + (i : Nat) * c), ?_, rfl⟩
  unfold rng3L
  rw [List.getElem?_map, List.getElem?_range h]
  rfl
theorem i_rng3 (hg : Gl X "range") (hm : X.mg "range" = none) (ha : PE X a (tE X.K W ow ma)) (hb : PE X b (tE X.K W ow mb)) (hc : PE X c (tE X.K W ow mc)) (hs : starEach [a, b, c] X.env = [(false, eval a X.env), (false, eval b X.env), (false, eval c X.env)] := by rfl) (hs2 : starEach [b, c] X.env = [(false, eval b X.env), (false, eval c X.env)] := by rfl) (hs3 : starEach [c] X.env = [(false, eval c X.env)] := by rfl) (hpl : (backTo pos (starEach [b, c] X.env)).any (·.1) = false := by rfl) :
    PI X tg (.Call (.Name "range" p) [a, b, c] [] pos) (tI Mv X.K W ow (irng3 ma mb mc)) :=
  PI.of (pi_range3 hg hm (pa_cons ha (pa_cons hb (pa_cons hc pa_nil hs3) (by rw [hs2, hs3])) (by rw [hs, hs2])) (by rw [hs, hs2]) hpl) fun σ H R' ⟨A, H0, O, en, R, q⟩ => ⟨A, H0, O, en, R, (Out.bind q).good fun d q1 v H1 s1 r1 => ⟨A, H0, O, en, R.to s1, ((Out.bind q1).to s1).good fun d2 q2 v2 H2 s2 r2 => by
    have q2' : Out (mc en >>= fun z => match d, d2, z with
      | .int m, .int n, .int k => if m.natAbs < B62 ∧ n.natAbs < B62 ∧ (0 < k ∨ k = -1) ∧ k.natAbs < 1073741824 then Res.ok (rng3L m n k) else .stuck
      | _, _, _ => .stuck) _ _ := q2
    refine ⟨A, H0, O, en, (R.to s1).to s2, ((Out.bind q2').to (s1.trans s2)).good fun d3 q3 v3 H3 s3 r3 => ?_⟩
    cases d with
    | int i =>
      cases d2 with
      | int n =>
        cases d3 with
        | int k =>
          simp only at q3
          split at q3
          · rename_i z
            have r1' : v = .int i := r1
            have r2' : v2 = .int n := r2
            have r3' : v3 = .int k := r3
            subst r1' r2' r3'
            obtain ⟨z1, z2, z3, z4⟩ := z
            have hk : k < 1073741824 ∧ k.natAbs < 1073741824 := by omega
            exact ⟨i, n, k, cnt3 i n k, rfl, ⟨by omega, hk.2, small3 (nb62 z1).1 (nb62 z1).2 (nb62 z2).1 (nb62 z2).2 ⟨z3, hk.1⟩, size3 z3⟩, q3 _ H3 ((s1.trans s2).trans s3) itm_rangeC⟩
          · exact (show False from q3).elim
        | _ => exact (show False from q3).elim
      | _ => exact (show False from q3).elim
    | _ => exact (show False from q3).elim⟩⟩
end
end Py
/-! A slice of a list is a new list. -/
/-! == by an own __eq__. -/
/-! sorted(xs) of numbers, of tuples of numbers and tuples. -/
/-! Draws. -/
namespace Py
open PySem PySem.Spec PyProof.Rows L2
variable [WI]
theorem rep_ints_inv {K : Frag} {A : AS} {H : Hp} : ∀ {xs : List D} {is : List Int} {vs : List V}, allI xs = some is → RepL K A H xs vs → vs = is.map V.int
  | [], is, vs, e, r => by
    simp only [allI, Option.some.injEq] at e
    subst e
    simpa [RepL] using r
  | d :: xs, is, vs, e, r => by
    cases d <;> simp only [allI, reduceCtorEq] at e
    rename_i i
    cases h : allI xs with
    | none => rw [h] at e; cases e
    | some js =>
      rw [h] at e
      simp only [Option.map_some, Option.some.injEq] at e
      subst e
      simp only [RepL] at r
      obtain ⟨v, w, rfl, h1, h2⟩ := r
      rw [rep_ints_inv h h2]
      have h1' : v = .int i := h1
      rw [h1']
      rfl
theorem repW_cells {K : Frag} {A : AS} {H : Hp} {q : Nat × List Int} {v : V} (h : RepW K A H (.drw (.inr q)) v) : RepW K A H (.lst (q.2.map .int)) v := by
  obtain ⟨e, n, r⟩ := (by simpa only [RepW, Rep] using h : v = .ref q.1 ∧ ¬ A q.1 ∧ Rd H q.1 (.lst (q.2.map V.int)))
  exact ⟨q.1, _, e, r, repL_ints q.2⟩
section
variable {fr : Rm} {X : Cx} [CW X] {W : WX} {A : AS} {H0 : Base} {ow oN oB : Ow} {a b c e : Expr} {es : List Expr} {m ma mb mc : EM} {am : AM} {pos : Pos} {body : List Stmt} {t : TS}
theorem y_idxC (hu : X.A.units + 16 < cLine) : IxR X (r2 X.K oidxC) := by
  intro value slice pins s σ H x y v u Q I rx ry ⟨A, d1, d2, d, h1, h2, ha, e, k⟩ hs
  cases d1 with
  | drw q =>
    cases q with
    | inl _ => cases e
    | inr q => exact y_idx hu value slice pins s σ H x y v u Q I rx ry ⟨A, _, d2, d, repW_cells h1, h2, ha, e, k⟩ hs
  | _ => cases e
theorem Ctx.ixC {X : Cx} [CW X] {W : WX} {k : Nat} (T : Ctx X W k) : IxR X (r2 X.K oidxC) := y_idxC (by have := T.hr.un; omega)
theorem n_idxC : NoEx2 oidxC := fun x y c fs => by
  cases x with
  | drw q =>
    cases q with
    | inl _ => rfl
    | inr q => exact n_idx _ _ () ()
  | _ => rfl
theorem v_lenC : CallR X (.builtin "len") (c1 X.K blenC) := fun pins s σ H xs us Q I rx ⟨x, e0, A, d1, d, h1, ha, e, k⟩ => by
  cases d1 with
  | drw q =>
    cases q with
    | inl _ => cases e
    | inr q => exact v_len pins s σ H xs us Q I rx ⟨x, e0, A, _, d, repW_cells h1, ha, e, k⟩
  | _ => cases e
theorem n_lenC : NoEx1 blenC := fun x c fs => by
  cases x with
  | drw q =>
    cases q with
    | inl _ => rfl
    | inr q => exact n_len (.lst (q.2.map .int)) () ()
  | _ => rfl
theorem x_idxC (hi : IxR X (r2 X.K oidxC)) (ha : PE X a (tW X.K W ow ma)) (hb : PE X b (tW X.K W ow mb)) (hs : PlainIx b := by exact fun _ _ => rfl) : PE X (.Subscript a b pos) (tE X.K W ow (bin oidxC ma mb)) :=
  PE.of (pe_ix hi ha hb hs) fun _ _ _ h => two_of n_idxC h
theorem ER.back {K : Frag} {O : OW} {σ : L2.St} {H : Hp} {e : Env} (R : ER K A H0 ow O σ H e) {a : Addr} (hpx : H0.px = some a) {d l : D} {v : V} (r : Rep K (AO A O) H d v) (hl : e[0]? = some (some l)) (h0 : ow 0 = true) :
    ∃ G, Inn A (fun b => H0.hp b = none) H a G ∧ Rep K (gA A a G) H d v ∧ OwnG K (gA A a G) G H a l := by
  have z := R.pin a hpx
  obtain ⟨b, p1, p2, p3⟩ := R.owns 0 l hl h0
  have e : b = a := Option.some.inj (p1.symm.trans z)
  subst e
  have mv : Mv (AO A O) H (gA A b (gh O 0)) H := Mv.less fun c hc => by
    rcases hc with (hc | hc) | ⟨t, hc⟩
    · exact .inl hc
    · rw [hc]
      exact .inr ⟨_, p1⟩
    · exact .inr ⟨_, hc⟩
  refine ⟨gh O 0, ⟨fun t c hc => ⟨(R.fresh _ c hc).1, (R.fresh _ c hc).2.1, (R.fresh _ c hc).2.2, fun w => ?_⟩, fun t t' c hc hc' => ?_⟩, Rep.move mv _ _ r, p3.move mv rfl fun t c hc => ⟨hc, rfl⟩⟩
  · subst w
    have := R.inj _ _ c p1 hc
    cases t <;> simp at this
  · have := R.inj _ _ c hc hc'
    cases t <;> cases t' <;> simp at this <;> rfl
theorem s_retB (h : PE X a (tE X.K W ow m)) (h0 : ow 0 = true) : PS X (.Return (some a) pos) (tS3 .lent X.K W ow oN oB (retB m)) :=
  PS.of (ps_ret h) fun D σ H ⟨A, H0, O, en, R, q⟩ => ⟨A, H0, O, en, R, ((Out.bind q).se R).good fun d q1 v H1 s1 r1 => by
    obtain ⟨l, hl, q2⟩ := var_ok q1
    have q3 : EndOk3 .lent X.K A H0 oN oB O H D (.ret (.tup [d, l])) := q2
    exact q3 v H1 (R.same.trans s1) ⟨d, l, rfl, fun x hx => (R.to s1).back hx r1 hl h0⟩⟩
/-! ### a pool is opened, closed -/
theorem Inv.opened {pins : List (Addr × Obj)} {σ : L2.St} {H : Hp} {s : Shared} {k : Bool} {x a0 : Addr} (I : Inv X pins σ H s) (h : H x = some (poolO k x a0)) :
    ∃ vs, PoolV k a0 vs ∧ Inv X pins σ (upd H x (.lst vs)) s := by
  obtain ⟨⟨vs, its, n, hp, hv, hg⟩, ho, _⟩ := I.hok x _ h
  refine ⟨vs, hp, ?_⟩
  have hl : vs.length ≤ sizeLine := by
    cases k
    · obtain ⟨p, c, m, rfl, _⟩ := hp
      exact (by decide : 4 ≤ sizeLine)
    · obtain ⟨p, c, j, m, rfl, _⟩ := hp
      exact (by decide : 5 ≤ sizeLine)
  exact L2.Inv.write (e := x) (o := .lst vs) (t' := s.toks) I (by rw [h]; exact True.intro) (.inl rfl) (fun b u _ q => q) ⟨_, hg⟩ ⟨hl, its, n, hv, hg⟩
theorem Inv.closed {pins : List (Addr × Obj)} {σ : L2.St} {H : Hp} {s : Shared} {k : Bool} {x a0 : Addr} {vs : List V} (I : Inv X pins σ H s) (h : H x = some (.lst vs)) (hp : PoolV k a0 vs) :
    Inv X pins σ (upd H x (poolO k x a0)) s := by
  obtain ⟨hl, its, n, hv, hg⟩ := I.hok x _ h
  refine L2.Inv.write (e := x) (o := poolO k x a0) (t' := s.toks) I (by rw [h]; exact True.intro) (.inl rfl) (fun b u _ q => q) ⟨_, hg⟩ ⟨⟨vs, its, n, hp, hv, hg⟩, ⟨_, hg⟩, ?_⟩
  rintro h1 h2 ⟨vs', its', n', hp', hv', hg'⟩ kk
  exact ⟨vs', its', n', hp', hv', kk _ hg'⟩
def tOpen (t : TS) : TS := fun D σ H => ∃ k x a0, H x = some (poolO k x a0) ∧ ∀ vs, PoolV k a0 vs → t { nx := fun _ _ => False, rt := fun v H' => ∃ vs', PoolV k a0 vs' ∧ H' x = some (.lst vs') ∧ D.rt v (upd H' x (poolO k x a0)) } σ (upd H x (.lst vs))
theorem pss_open (h : PSs X body t) : PSs X body (tOpen t) := ⟨fun pins s σ H D I ⟨k, x, a0, hx, q⟩ => by
  obtain ⟨vs, hp, J⟩ := Inv.opened I hx
  refine thn (h.run pins s σ _ _ J (q vs hp)) fun f s' z => ?_
  cases f with
  | next => obtain ⟨_, _, _, z⟩ := z; exact z.elim
  | brk => obtain ⟨_, _, _, z⟩ := z; exact z.elim
  | cont => obtain ⟨_, _, _, z⟩ := z; exact z.elim
  | ret u =>
    obtain ⟨v, σ', H', I', r', vs', p', e', d'⟩ := z
    exact ⟨v, σ', _, Inv.closed I' e' p', r', d'⟩⟩
theorem pool_v {K : Frag} {k : Bool} {A : AS} {H : Hp} {a0 : Nat} {xs : List Int} {ds : List D} {vs : List V} (h : DV k a0 xs ds) (r : RepL K A H ds vs) : PoolV k a0 vs := by
  cases k
  · obtain ⟨p, c, m, rfl, h1, h2, h3⟩ := h
    simp only [RepL, Rep] at r
    obtain ⟨v0, r0, rfl, ⟨rfl, _⟩, v1, r1, rfl, rfl, v2, r2, rfl, rfl, v3, r3, rfl, rfl, rfl⟩ := r
    exact ⟨p, c, m, rfl, h1, h2, h3⟩
  · obtain ⟨p, c, j, m, rfl, h1, h2, h3⟩ := h
    simp only [RepL, Rep] at r
    obtain ⟨v0, r0, rfl, ⟨rfl, _⟩, v1, r1, rfl, rfl, v2, r2, rfl, rfl, v3, r3, rfl, rfl, v4, r4, rfl, rfl, rfl⟩ := r
    exact ⟨p, c, j, m, rfl, h1, h2, h3⟩
theorem pool_d {K : Frag} {k : Bool} {A : AS} {H : Hp} {a0 : Nat} {xs : List Int} {vs : List V} (h : PoolV k a0 vs) (na : ¬ A a0) (r : Rd H a0 (.lst (xs.map V.int))) : ∃ ds, DV k a0 xs ds ∧ RepL K A H ds vs := by
  cases k
  · obtain ⟨p, c, m, rfl, h1, h2, h3⟩ := h
    refine ⟨_, ⟨p, c, m, rfl, h1, h2, h3⟩, ?_⟩
    simp only [RepL, Rep]
    exact ⟨_, _, rfl, ⟨rfl, na, r⟩, _, _, rfl, rfl, _, _, rfl, rfl, _, _, rfl, rfl, rfl⟩
  · obtain ⟨p, c, j, m, rfl, h1, h2, h3⟩ := h
    refine ⟨_, ⟨p, c, j, m, rfl, h1, h2, h3⟩, ?_⟩
    simp only [RepL, Rep]
    exact ⟨_, _, rfl, ⟨rfl, na, r⟩, _, _, rfl, rfl, _, _, rfl, rfl, _, _, rfl, rfl, _, _, rfl, rfl, rfl⟩
end
theorem ar_pick {k : Bool} : Ar 2 (pickF k) := ⟨fun ds h => by
  match ds, h with
  | [], _ => rfl
  | [_], _ => simp [pickF]
  | _ :: _ :: _ :: _, _ => simp [pickF]
  | [a, b], h => exact absurd rfl h⟩
theorem rd_ne {H : Hp} {a0 x : Addr} {k : Bool} {vs : List V} (h : H x = some (poolO k x a0)) (r : Rd H a0 (.lst vs)) : a0 ≠ x := fun e => by
  subst e
  rcases r with r | ⟨o, r⟩ <;> (rw [h] at r; cases r)
theorem Rd.upd {H : Hp} {a x : Addr} {u o : HO} (r : Rd H a u) (h : a ≠ x) : Rd (upd H x o) a u := by
  rcases r with r | ⟨q, r⟩
  · exact .inl (by rw [upd_ne h]; exact r)
  · exact .inr ⟨q, by rw [upd_ne h]; exact r⟩
section
variable {P : Program} {w : World} [HW w] {K : Frag} {mg : Str → Option Value} {base : Heap} {k : Nat} {oN oB : Ow} {m : SM} {f : Addr} {N ps : List Str} {n : Nat}
theorem draw_start {kk : Bool} {E : XK} {vs : List V} {H : Hp} {Q : VK} (hN : 2 ≤ N.length) (hD : Draws kk N.length m) (h : spM K 2 (pickF kk) vs H Q E) :
    tOpen (tS3 .lent K (WD E) ⟨fun i => i == 0, none⟩ oN oB m) { nx := fun _ H' => Q .non H', rt := Q } (L2.start N vs) H := by
  obtain ⟨A, ds, r, hl, ha, q⟩ := h
  match ds, hl with
  | [d1, d2], _ =>
  cases d1 with
  | drw z =>
    cases z with
    | inl q0 =>
      cases d2 with
      | int many =>
        simp only [pickF] at q
        split at q
        · rename_i hc
          obtain ⟨rfl, h1, h2⟩ := hc
          simp only [RepL, Rep] at r
          obtain ⟨v0, r0, rfl, ⟨x, a0, xs, rfl, nx, hx, na, rd⟩, v1, r1, rfl, rfl, rfl⟩ := r
          refine ⟨q0, x, a0, hx, fun vs hv => ?_⟩
          have hne := rd_ne hx rd
          have nO : ∀ i y, (if i = 0 then some x else none) = some y → i = 0 ∧ y = x := fun i y h => by
            by_cases hi : i = 0
            · rw [if_pos hi] at h
              cases h
              exact ⟨hi, rfl⟩
            · rw [if_neg hi] at h
              cases h
          have nAO : ¬ AO A (fun i => if i = 0 then some x else none) a0 := fun z => z.elim na fun ⟨i, z⟩ => hne (nO i a0 z).2
          obtain ⟨ds, hds, rds⟩ := pool_d (K := K) (A := AO A fun i => if i = 0 then some x else none) (H := upd H x (.lst vs)) hv nAO (Rd.upd rd hne)
          obtain ⟨rr, ds', hb, hr1, hr2, hds'⟩ := hD a0 xs ds many hds h1 h2
          refine ⟨A, ⟨fun b => if b = x then none else H b, some x⟩, fun i => if i = 0 then some x else none, [some (.lst ds), some (.int many)] ++ List.replicate (N.length - 2) none, ?_, ?_⟩
          · refine ⟨?_, fun b hb => ?_, fun b o e => ?_, fun i d g1 g2 => ?_, fun i d g1 g2 => ?_, fun i y g => ?_, fun i j y g g' => (nO i y g).1.trans (nO j y g').1.symm, fun y g => by cases g; rfl, XFact.none rfl⟩
            · unfold L2.start
              simp only [List.length_append, List.length_map, List.length_replicate, List.length_cons, List.length_nil]
            · by_cases e : b = x
              · rw [e, upd_same]
                exact fun z => nomatch z
              · rw [upd_ne e]
                exact ha b hb
            · have e : (if b = x then none else H b) = some o := e
              by_cases e2 : b = x
              · rw [if_pos e2] at e
                cases e
              · rw [if_neg e2] at e
                rw [upd_ne e2]
                exact e
            · match i with
              | 0 => exact absurd g2 (by simp)
              | 1 =>
                simp at g1
                subst g1
                exact ⟨_, start_get (i := 1) rfl, rfl⟩
              | i + 2 =>
                rw [List.getElem?_append_right (by simp), List.getElem?_replicate] at g1
                split at g1 <;> cases g1
            · match i with
              | 0 =>
                simp at g1
                subst g1
                exact ⟨x, rfl, start_get (i := 0) rfl, vs, upd_same, rds⟩
              | i + 1 => exact absurd g2 (by simp)
            · obtain ⟨rfl, rfl⟩ := nO i y g
              exact ⟨if_pos rfl, by rw [upd_same]; exact fun z => (nomatch z), nx⟩
          · rw [hb]
            intro v H' s' ⟨rv, l, e, g2⟩
            cases e
            obtain ⟨G, _, g1, g3⟩ := g2 x rfl
            obtain ⟨vs', e1, rl⟩ := (show ∃ vs, H' x = some (.lst vs) ∧ RepL K (gA A x G) H' ds' vs from g3)
            refine ⟨vs', pool_v hds' rl, e1, ?_⟩
            have hv : v = .int rr := g1
            subst hv
            refine q rr.toNat (by omega) (.int rr) _ (fun b o e => ?_) (by
              have : (rr.toNat : Int) = rr := by omega
              show V.int rr = V.int (rr.toNat : Int)
              rw [this])
            by_cases e2 : b = x
            · subst e2
              rw [hx] at e
              cases e
              exact upd_same
            · rw [upd_ne e2]
              exact s' b o (by show (if b = x then none else H b) = some o; rw [if_neg e2]; exact e)
        · exact q.elim
      | _ => simp only [pickF] at q; exact q.elim
    | inr _ => cases d2 <;> (simp only [pickF] at q; exact q.elim)
  | _ => cases d2 <;> (simp only [pickF] at q; exact q.elim)
theorem def_okP {d : He.DefD} {kk : Bool} (F : ∃ fd, FunD K d.name d.qual d.params d.body d.scope [] [] f fd) (g : mg d.name = some (.ref f)) (S : FnScope N ps d.scope) (hpl : ps.length = 2) (hnl : N.length = n) (hD : Draws kk n m)
    (hbind : ∀ (kV doc pm : Value) (an : Option Addr) (cdv ct : Value) (us : List Value), us.length = ps.length → bindArgs (PySem.W.fnOf d.name d.qual d.params d.body d.scope .none kV doc pm an cdv ct) ⟨us, []⟩ = pure (ps.zip us))
    (hb : ∀ (cdv : Value) (A : Around) (outer : List PySem.Env) (s : Shared) (H : Hp) (E : XK), Ctx (cxOf (L2N.CX P w) P w K mg base N d.qual d.scope f cdv A outer s H E) (WD E) k →
      PSs (cxOf (L2N.CX P w) P w K mg base N d.qual d.scope f cdv A outer s H E) d.body (tS3 .lent K (WD E) ⟨fun i => i == 0, none⟩ oN oB m)) : CallOk P w K mg base (k + 1) d.name d ps 2 (pickF kk) := by
  obtain ⟨fd, F⟩ := F
  subst hnl
  refine ⟨f, fd, g, F.kp, FunD.bindsN F hbind, ?_, ar_pick, F⟩
  refine F.ok S (fun vs H Q E ⟨A, ds, r, h, _⟩ => by rw [hpl]; exact r.length.symm.trans h) (fun cdv A outer s H vs Q E hr h => ?_)
  exact ⟨_, pss_open (hb cdv A outer s H E ⟨rfl, L2N.takes_of rfl rfl rfl rfl, passes_of rfl, hr, S.nd⟩), draw_start (by rw [← hpl]; exact pre_le S.pre) hD h⟩
end
/-! ### a new pool -/
def tPool (t : TE) : TE := fun σ H Q => t σ H fun v H' => ∃ k x a0 vs, v = .ref x ∧ H' x = some (.lst vs) ∧ PoolV k a0 vs ∧ Q v (upd H' x (poolO k x a0))
section
variable {X : Cx} [CW X] {W : WX} {ow : Ow} {e : Expr} {m : EM}
theorem pe_pool {t : TE} (h : PE X e t) : PE X e (tPool t) := ⟨fun pins s σ H Q I q => thn (h.run pins s σ H _ I q) fun u s' ⟨v, H', I', r', k, x, a0, vs, e1, e2, e3, e4⟩ => ⟨v, _, Inv.closed I' e2 e3, r', e4⟩⟩
theorem pool_end {K : Frag} {A : AS} {O : OW} {H H' : Hp} {Q : VK} {a : Addr} {k : Bool} {xs : List D} {vs : List V} (h0 : ∀ b, AO A O b → H b ≠ none) (n : H a = none) (s : Same H H') (e : H' a = some (.lst vs)) (hx : (allI xs).isSome)
    (hr : ∃ a0, (¬ AO A O a0 ∧ a0 ≠ a) ∧ (∃ ws, Rd H' a0 (.lst ws) ∧ RepL K (fun b => AO A O b ∨ b = a) H' xs ws) ∧ PoolV k a0 vs) (q : ∀ v H2, Same H H2 → Rep K (AO A O) H2 (.drw (.inl k)) v → Q v H2) :
    ∃ k x a0 vs, V.ref a = .ref x ∧ H' x = some (.lst vs) ∧ PoolV k a0 vs ∧ Q (.ref a) (upd H' x (poolO k x a0)) := by
  obtain ⟨a0, ⟨h1, h2⟩, ⟨ws, h3, h4⟩, h5⟩ := hr
  refine ⟨k, a, a0, vs, rfl, e, h5, q _ _ (fun b o g => ?_) ?_⟩
  · rw [upd_ne (fun z => by rw [z, n] at g; cases g)]
    exact s b o g
  · obtain ⟨is, his⟩ := Option.isSome_iff_exists.mp hx
    have hw := rep_ints_inv his h4
    subst hw
    simp only [Rep]
    exact ⟨a, a0, is, rfl, fun z => h0 a z n, upd_same, h1, Rd.upd h3 h2⟩
theorem x_pool (h : PE X e (tF X.K W ow m)) : PE X e (tE X.K W ow (mkp m)) :=
  PE.of (pe_pool h) fun σ H Q ⟨A, H0, O, en, R, q⟩ => ⟨A, H0, O, en, R, (Out.bind q).good fun d q1 a H' n s o => by
    rcases mkpF_inv d with hd | ⟨xs, p, c, u, rfl, hc, hd⟩ | ⟨xs, p, c, j, u, rfl, hc, hd⟩
    · rw [hd] at q1
      exact q1.elim
    · rw [hd] at q1
      obtain ⟨vs, e1, r⟩ := o
      simp only [RepL, Rep] at r
      obtain ⟨v0, r0, rfl, ⟨a0, ws, rfl, na, rd, rl⟩, v1, r1, rfl, rfl, v2, r2, rfl, rfl, v3, r3, rfl, rfl, rfl⟩ := r
      exact pool_end (k := false) R.there n s e1 hc.1 ⟨a0, ⟨fun z => na (.inl z), fun z => na (.inr z)⟩, ⟨ws, rd, rl⟩, ⟨p, c, u, rfl, hc.2⟩⟩ q1
    · rw [hd] at q1
      obtain ⟨vs, e1, r⟩ := o
      simp only [RepL, Rep] at r
      obtain ⟨v0, r0, rfl, ⟨a0, ws, rfl, na, rd, rl⟩, v1, r1, rfl, rfl, v2, r2, rfl, rfl, v3, r3, rfl, rfl, v4, r4, rfl, rfl, rfl⟩ := r
      exact pool_end (k := true) R.there n s e1 hc.1 ⟨a0, ⟨fun z => na (.inl z), fun z => na (.inr z)⟩, ⟨ws, rd, rl⟩, ⟨p, c, j, u, rfl, hc.2⟩⟩ q1⟩
end
theorem always_out {α : Type} {P : α → Prop} {r : Res α} {good : α → Prop} {bad : String → List (String × Py.D) → Prop} (h : Always P r) (k : ∀ a, P a → good a) : Out r good bad := by
  induction r with
  | ok a => exact k a h
  | exc c fs => exact h.elim
  | stuck => exact h.elim
  | pick n f ih => exact fun i hi => ih i (h i hi)
/-- whatever is drawn, the law holds -/
theorem sp_lawA {K : Frag} {fm : List Py.D → Res Py.D} (hL : noL K = true) {H : Hp} {a : Addr} {ns : List Int} (hm : Always (fun d => d = .bl true) (fm [.lst (ns.map .int)])) (hS : SqL K H a (ns.map V.int)) :
    spM K 1 fm [.ref a] H (fun v _ => v = .bl true) fun _ _ _ => False := by
  refine ⟨fun _ => False, [.lst (ns.map .int)], ?_, rfl, fun _ h => h.elim, always_out hm fun d e => ?_⟩
  · simp only [RepL]
    refine ⟨_, _, rfl, ?_, rfl⟩
    simp only [Rep]
    exact ⟨a, _, rfl, id, sqL_rd hL hS, ints_rep ns⟩
  · subst e
    exact fun v H' _ r => r
end Py
/-! Defs that give back a pair of new lists. -/
namespace Py
variable [WI]
open PySem L2
def spT (K : Frag) (p : Nat) (m : List D → Res D) : Sp := fun vs H Q E => ∃ A ds, RepL K A H ds vs ∧ ds.length = p ∧ (∀ a, A a → H a ≠ none) ∧
  Out (m ds) (fun d => (d = .non → ∀ H', Same H H' → Q .non H') ∧ ∀ a b c x y H', d = .tup [x, y] → SqT K H' a [.ref b, .ref c] → b ≠ c → H b = none → H c = none → Same H H' → OwnAt K (fun z => (A z ∨ z = b) ∨ z = c) H' b x → OwnAt K (fun z => (A z ∨ z = b) ∨ z = c) H' c y → Q (.ref a) H') (fun c fs => ∀ da H' fvs, Same H H' → H' da = some (.xd fvs) → RepF K A H' fs fvs → E (.ref (ca K c)) (some da) H')
theorem spT_le {K : Frag} {p : Nat} {m : List D → Res D} {vs : List V} {H : Hp} {Q : VK} {E : XK} (h : spM K p m vs H Q E) : spT K p m vs H Q E := by
  obtain ⟨A, ds, r, hl, ha, q⟩ := h
  refine ⟨A, ds, r, hl, ha, q.good fun d k => ⟨fun e H' s => ?_, fun a b c x y H' e1 e2 e3 e4 e5 s o1 o2 => k (.ref a) H' s ?_⟩⟩
  · subst e
    exact k .non H' s rfl
  · subst e1
    have nb : ¬ A b := fun z => ha b z e4
    have nc : ¬ A c := fun z => ha c z e5
    have mv : Mv (fun z => (A z ∨ z = b) ∨ z = c) H' A H' := Mv.less fun b x => .inl (.inl x)
    simp only [Rep, RepL]
    exact ⟨a, _, rfl, e2, _, _, rfl, o1.rep mv nb, _, _, rfl, o2.rep mv nc, rfl⟩
/-- the name x calls a def that gives back a pair of new lists -/
def CallT (P : Program) (w : World) (K : Frag) (mg : Str → Option Value) (base : Heap) (k : Nat) (x : Str) (d : He.DefD) (ps : List Str) (n : Nat) (fm : List D → Res D) : Prop := ∃ f fd, mg x = some (.ref f) ∧ PySem.W.keepIn K (.ref f) = true ∧ Binds K fd ps [] ∧ FnOk P w K mg base (L2N.CX P w) k f fd ps (spT K n fm) ∧ Ar n fm ∧ FunD K d.name d.qual d.params d.body d.scope [] [] f fd
theorem CallT.le {P : Program} {w : World} {K : Frag} {mg : Str → Option Value} {base : Heap} {k : Nat} {x : Str} {d : He.DefD} {ps : List Str} {n : Nat} {fm : List D → Res D} (C : CallT P w K mg base k x d ps n fm) : CallOk P w K mg base k x d ps n fm := by
  obtain ⟨f, fd, h1, h2, h3, h4, h5⟩ := C
  exact ⟨f, fd, h1, h2, h3, h4.imp fun _ _ _ _ z => spT_le z, h5⟩
end Py
/-! Dict comprehensions, whatever their keys are. -/
namespace Py
open PySem PySem.Spec PyProof.Rows L2
abbrev Blk (X : Cx) (s : Shared) (H : Hp) (sc : Scope) (C : Addr) (cl : List (Str × Addr)) (fp : List Addr) : Cx := X.blk s H sc (compEnvC sc cl C X.env) fp
/-- what is put at D by a turn; whatever St asks, it serves the store -/
abbrev Step := Addr → Hp → V → V → (Hp → Prop) → Prop
def Stores (X : Cx) (St : Step) : Prop := ∀ (s0 : Shared) (H0 : Hp) (sc : Scope) (ce : PySem.Env) (fp : List Addr) (pn : List (Addr × Obj)) (τ : L2.St) (H : Hp) (s : Shared) (D : Addr) (y z : V) (u r : Value) (Nx : Hp → Prop) (Q : Unit → Shared → Prop) (E : Value → Shared → Prop),
  Inv (X.blk s0 H0 sc ce fp) pn τ H s → St D H y z Nx → RelV y u → RelV z r → (∀ s' H', Inv (X.blk s0 H0 sc ce fp) pn τ H' s' → Nx H' → Q () s') → wpAny (model X.prog X.w) X.A (dictSet D u r) Q E s
def tDG (o0 : Addr → HO) (St : Step) (wi : TI) (g : TG) (tt : TT) (tk tv : TE) (vs : List Nat) : TE := fun σ H Q => wi σ H fun J H1 => ∀ D, H1 D = none → ∃ Wk : Nat → Nat → Hp → Prop, (∃ m, Wk 0 m (upd H1 D (o0 D))) ∧
  ∀ i m H, Wk i m H → (J.stop i H ∧ Q (.ref D) H) ∨ (J.go i H ∧ ∃ Nx : Hp → Prop, (∀ H', Nx H' → ∃ m', m' < m ∧ Wk (i + 1) m' H') ∧
    ∀ x H', J.yld i H x H' → g x (L2.wipe σ vs) H' fun σ2 H2 => L2.wipe σ2 vs = L2.wipe σ vs ∧ tt σ2 H2 fun b H3 => if b = true then tk σ2 H3 fun y H4 => tv σ2 H4 fun z H5 => St D H5 y z Nx else Nx H3)
section
variable {X : Cx} {kx vx tg iter : Expr} {ifs : List Expr} {scope : Scope} {own : List (Str × Nat)} {pos : Pos} {o0 : Addr → HO} {St : Step} {wi : TI} {g : TG} {tt : TT} {tk tv : TE}
/-- the whole walk of a dict comprehension; what becomes of the dict is left open -/
theorem dG_walk {pins : List (Addr × Obj)} {s : Shared} {σ : L2.St} {H : Hp} {Q : VK} {use : Option (Value → Sem Unit)} {Fin : Value → Shared → Prop} {first : Pos}
    (calm : X.calm = true) (nd : X.N.Nodup) (walk : PI X tg iter wi) (blk : BlkOk X.N X.env.scope scope own)
    (pg : ∀ (s : Shared) (H : Hp) (C : Addr) (cl : List (Str × Addr)) (fp : List Addr), PG (Blk X s H scope C cl fp) tg g)
    (pt : ∀ (s : Shared) (H : Hp) (C : Addr) (cl : List (Str × Addr)) (fp : List Addr), PTs (Blk X s H scope C cl fp) ifs tt)
    (pk : ∀ (s : Shared) (H : Hp) (C : Addr) (cl : List (Str × Addr)) (fp : List Addr), PE (Blk X s H scope C cl fp) kx tk)
    (pv : ∀ (s : Shared) (H : Hp) (C : Addr) (cl : List (Str × Addr)) (fp : List Addr), PE (Blk X s H scope C cl fp) vx tv)
    (new : ∀ (h : Heap) (H : Hp), sysModules < h.objs.size → ObjOk X.prog X.w H (h.push { cls := .type "dict", data := .dict #[] }) h.objs.size (o0 h.objs.size)) (store : Stores X St)
    (fold : ∀ x, foldedSetIterable iter X.env x = pure x) (J0 : Inv X pins σ H s) (want : tDG o0 St wi g tt tk tv (own.map (·.2)) σ H Q)
    (last : ∀ (D C : Addr) (t : Shared) (m : Str → Option Value) (H' : Hp), FpOk X pins H' C → t.heap.Ns C m → Q (.ref D) H' → Inv X pins σ H' t → compPost (model X.prog X.w) X.A X.xe use Fin (.ref D) C (.ok .next) t) :
    wpAny (model X.prog X.w) X.A (comprehension (.DictComp kx vx [⟨tg, iter, ifs, 0⟩] scope pos) scope X.env first newDict false (eval iter X.env) use) Fin X.xe s := by
  have free : ∀ y ∈ scope.names, y.2 = .free → ∃ c, X.env.cells.lookup y.1 = some c := by
    intro y hy e
    exact (blk.free y hy e).elim (fun k => J0.ok.has _ (.inl k)) fun k => J0.ok.has _ (.inr k)
  apply wpAny_comprehension_free (use := use) rfl fold (closure_ok free) blk.kind (by intro y hy e; rw [blk.uniq y hy, e])
  apply thn (walk.run pins s σ H _ J0 want)
  intro xv s1 hx
  apply thn hx
  rintro itv s2 ⟨it, fp, tn, J, H2, rfl, J2, T, tn2, fp2, q⟩
  refine wpAny_newObj_type (newEnv_comp ?_)
  obtain ⟨Wk, ⟨m0, w0⟩, round⟩ := q s2.heap.objs.size (J2.hok.fresh (Nat.le_refl _))
  -- the dict stands in the heap
  obtain ⟨sD, eD⟩ : ∃ z : Shared, z = { s2 with heap := s2.heap.push { cls := .type "dict", data := .dict #[] } } := ⟨_, rfl⟩
  obtain ⟨HD, eH⟩ : ∃ z : Hp, z = upd H2 s2.heap.objs.size (o0 s2.heap.objs.size) := ⟨_, rfl⟩
  have J3 : Inv X pins σ HD sD := by
    rw [eD, eH]
    exact J2.laid (t' := s2.toks) (fun b o e => Heap.get?_push_of_some _ e) (Nat.le_refl _) (new s2.heap _ J2.big)
  have hp3 : sD.heap = s2.heap.push { cls := .type "dict", data := .dict #[] } := by rw [eD]
  have low : ∀ b ∈ fp, b < s2.heap.objs.size := by
    intro b hb
    obtain ⟨o, e, _⟩ := T.obj _ _ tn2 b hb
    exact Heap.lt_size e
  have fp3 : ∀ b ∈ fp, FpOk X pins HD b ∧ b < sD.heap.objs.size := by
    intro b hb
    have hlt := low b hb
    constructor
    · constructor
      · rw [eH, upd_ne (Nat.ne_of_lt hlt)]
        exact (fp2 b hb).1
      · exact (fp2 b hb).2
    · rw [hp3, Heap.size_push]
      exact Nat.lt_succ_of_lt hlt
  have tn3 : tn 0 sD.heap := by
    apply T.keep _ _ _ tn2
    intro b _ o e
    rw [hp3]
    exact Heap.get?_push_of_some _ e
  -- the block begins
  have J4 := block_start J3 blk nd fp3
  obtain ⟨cl, ecl⟩ : ∃ z, z = cellsFrom (sD.heap.objs.size + 1) scope.names (cloFrom X.env.cells scope.names []) := ⟨_, rfl⟩
  obtain ⟨C, eC⟩ : ∃ z : Addr, z = sD.heap.objs.size := ⟨_, rfl⟩
  obtain ⟨sB, eB⟩ : ∃ z : Shared, z = { sD with heap := pushCells (sD.heap.push { cls := .type "dict", data := .dict #[] }) scope.names } := ⟨_, rfl⟩
  rw [← ecl, ← eC, ← eB] at J4
  have gB := pg sD HD C cl fp
  have tB := pt sD HD C cl fp
  have kB := pk sD HD C cl fp
  have vB := pv sD HD C cl fp
  have tnB : tn 0 sB.heap := by
    apply T.keep _ _ _ tn3
    intro b _ o e
    rw [eB]
    exact pushCells_keeps _ _ _ _ (Heap.get?_push_of_some _ e)
  have none3 : ∀ b ∈ fp, HD b = none := fun b hb => (fp3 b hb).1.1
  have noneC : HD C = none := by
    rw [eC]
    exact J3.hok.fresh (Nat.le_refl _)
  have fpC : FpOk X pins HD C := J3.fpOk (Nat.le_of_eq eC.symm) noneC
  obtain ⟨cenv, ece⟩ : ∃ z, z = compEnvC scope cl C X.env := ⟨_, rfl⟩
  have locC : cenv.locals = C := by rw [ece]; rfl
  have goal : codeAny (model X.prog X.w) X.A (.compLoop (.DictComp kx vx [⟨tg, iter, ifs, 0⟩] scope pos) 0 (.ref it) (.ref s2.heap.objs.size) cenv) (compPost (model X.prog X.w) X.A X.xe use Fin (.ref s2.heap.objs.size) C) sB := by
    unfold Blk at gB tB kB vB
    rw [← ece] at J4 gB tB kB vB
    have stand : ∀ {τ : L2.St} {H' : Hp} {s' : Shared}, Inv (X.blk sD HD scope cenv fp) [] τ H' s' → (∀ b ∈ fp, H' b = none) → ∀ b ∈ fp, FpOk (X.blk sD HD scope cenv fp) [] H' b := by
      intro τ H' s' I' hn b hb
      have ee := I'.ok.exf b hb
      refine ⟨hn b hb, ee.1, I'.ok.exfs b hb, .inl hb, fun x c e => ee.2 x c e, ?_⟩
      intro p hp
      simp at hp
    refine compLoop_anyD (fun n s' => ∃ i H', Inv (X.blk sD HD scope cenv fp) [] (L2.wipe σ (own.map (·.2))) H' s' ∧ tn i s'.heap ∧ (∀ b ∈ fp, H' b = none) ∧ Wk i n H') ?_ m0 ⟨0, HD, J4, tnB, none3, by rw [eH]; exact w0⟩
    rintro n s5 ⟨i, H5, I5, tn5, n5, w5⟩
    rcases round i n H5 w5 with ⟨stop, qq⟩ | ⟨go, Nx, less, step⟩
    · -- all is walked
      have ended := T.done (X.blk sD HD scope cenv fp) rfl rfl rfl calm i [] s5 _ H5 (fun _ _ => False) I5 (stand I5 n5) tn5 stop
      apply thnF ended
      rintro _ s6 ⟨rfl, I6⟩
      have back : Inv X pins σ H5 s6 := by
        apply J3.call' (ch := fp) I6.os I6.base I6.hok I6.bare
        intro b hb
        obtain ⟨_, f1, _, f3, f4, f5⟩ := (fp3 b hb).1
        exact ⟨f3, f1, f4, f5⟩
      have gone : H5 C = none := by
        have z : H5 cenv.locals = none := I6.free
        rwa [locC] at z
      obtain ⟨m, hn, _⟩ := I6.loc
      exact last _ C s6 m H5 (J3.fpOk (H' := H5) (Nat.le_of_eq eC.symm) gone) (by rw [← locC]; exact hn) qq back
    · -- one more turn
      have next := T.item (X.blk sD HD scope cenv fp) rfl rfl rfl calm i [] s5 _ H5 (fun _ _ => False) I5 (stand I5 n5) tn5 go
      apply thnF next
      rintro _ s6 ⟨u, rfl, h6⟩
      apply thnF h6
      rintro _ s7 ⟨x, H7, I7, r7, y7, tn7, n7⟩
      have over : ∀ {τ : L2.St} {s' : Shared} {H' : Hp}, Inv (X.blk sD HD scope cenv fp) ([] ++ pinsAt fp s7.heap) τ H' s' → L2.wipe τ (own.map (·.2)) = L2.wipe σ (own.map (·.2)) → Nx H' →
          ∃ m, m < n ∧ ∃ i H', Inv (X.blk sD HD scope cenv fp) [] (L2.wipe σ (own.map (·.2))) H' s' ∧ tn i s'.heap ∧ (∀ b ∈ fp, H' b = none) ∧ Wk i m H' := by
        intro τ s' H' I' same nx
        obtain ⟨m', hm, w'⟩ := less H' nx
        have held : ∀ b ∈ fp, ∀ o, s7.heap.get? b = some o → s'.heap.get? b = some o ∧ H' b = none := by
          intro b hb o e
          have z := I'.pin (b, o) (List.mem_append_right _ (List.mem_append_right _ (mem_pinsAt hb e)))
          exact ⟨z.1, z.2.1⟩
        refine ⟨m', hm, i + 1, H', (I'.unpinned (pins := [])).weak (by rw [← same, L2.wipe_length]) (fun j v e => ?_), T.keep _ _ _ tn7 fun b hb o e => (held b hb o e).1, fun b hb => ?_, w'⟩
        · rw [← same] at e
          exact (wipe_some e).1
        · obtain ⟨o, e, _⟩ := T.obj _ _ tn7 b hb
          exact (held b hb o e).2
      apply thnF (gB.run _ s7 _ H7 x u _ (I7.pinned (stand I7 n7) (T.obj _ _ tn7)) r7 (step x H7 y7))
      rintro _ s8 ⟨σ8, H8, I8, same8, q8⟩
      apply thnF (tB.run _ s8 σ8 H8 _ I8 q8)
      rintro b s9 ⟨H9, I9, q9⟩
      cases b with
      | false =>
        rw [if_neg (by decide)] at q9 ⊢
        exact over I9 same8 q9
      | true =>
        rw [if_pos rfl] at q9 ⊢
        apply thnF (kB.run _ s9 σ8 H9 _ I9 q9)
        rintro k1 s10 ⟨yk, H10, I10, r10, q10⟩
        apply thnF (vB.run _ s10 σ8 H10 _ I10 q10)
        rintro v1 s11 ⟨yv, H11, I11, r11, q11⟩
        exact store sD HD scope cenv fp _ σ8 H11 s11 _ yk yv k1 v1 Nx _ _ I11 q11 r10 r11 fun s12 H12 I12 nx => over I12 same8 nx
  have fin := codeAny_compStart_dict goal (T.self X.A 0 _ _ _ tnB goal)
  rw [ece, ecl, eC, eB, eD] at fin
  exact fin
/-- {k: v for target in iter if ..} -/
theorem pe_dG (calm : X.calm = true) (nd : X.N.Nodup) (walk : PI X tg iter wi) (blk : BlkOk X.N X.env.scope scope own)
    (pg : ∀ (s : Shared) (H : Hp) (C : Addr) (cl : List (Str × Addr)) (fp : List Addr), PG (Blk X s H scope C cl fp) tg g)
    (pt : ∀ (s : Shared) (H : Hp) (C : Addr) (cl : List (Str × Addr)) (fp : List Addr), PTs (Blk X s H scope C cl fp) ifs tt)
    (pk : ∀ (s : Shared) (H : Hp) (C : Addr) (cl : List (Str × Addr)) (fp : List Addr), PE (Blk X s H scope C cl fp) kx tk)
    (pv : ∀ (s : Shared) (H : Hp) (C : Addr) (cl : List (Str × Addr)) (fp : List Addr), PE (Blk X s H scope C cl fp) vx tv)
    (new : ∀ (h : Heap) (H : Hp), sysModules < h.objs.size → ObjOk X.prog X.w H (h.push { cls := .type "dict", data := .dict #[] }) h.objs.size (o0 h.objs.size)) (store : Stores X St)
    (fold : ∀ x, foldedSetIterable iter X.env x = pure x := by intro _; rfl) : PE X (.DictComp kx vx [⟨tg, iter, ifs, 0⟩] scope pos) (tDG o0 St wi g tt tk tv (own.map (·.2))) := by
  constructor
  intro pins s σ H Q J0 want
  rw [arm_eval_DictComp]
  apply dG_walk calm nd walk blk pg pt pk pv new store fold J0 want
  intro D C t m H' ⟨f0, f1, _, f3, f4, f5⟩ ns q I'
  exact ⟨m, ns, fun h2 sb => ⟨.ref D, H', I'.turned (t' := t.toks) (fun b o hb e => (sb.2 b hb).trans e) f0 f1 f3 f4 f5, rfl, q⟩⟩
end
end Py
/-! Dict comprehensions. -/
namespace Py
variable [WI]
open PySem PySem.Spec PyProof.Rows L2
abbrev StD (K : Frag) : Step := fun D H y z Nx => rSetN K (.ref D) y z H Nx
theorem stores_any {X : Cx} [CW X] (hu : X.A.units + 16 < cLine) : Stores X (StD X.K) := by
  intro s0 H0 sc ce fp pn τ H s D y z u r Nx Q E I st ry rz go
  obtain ⟨A, t, kvs, k, d, a, eo, hA, g, rk, rd, hk, hl, q⟩ := st
  cases eo
  rcases g with ⟨rfl, ks, e, rr⟩ | ⟨rfl, es, e, rr⟩
  · obtain ⟨c, hc⟩ := keyK hk
    have hy := kv_rep hc rk
    subst hy
    have hlen := rr.len
    have nd : (ks.map (·.1)).Nodup := by
      obtain ⟨_, _, vs, rel, _, _, _, _, _, _, _, _, nd⟩ := dk_of I.hok e
      rw [rel.keys]
      exact nd
    refine d_dictSet (X := X.blk s0 H0 sc ce fp) I e (by rw [hlen]; exact hl) ry rz fun s' I' => go s' _ I' (q _ ?_)
    have mv : Mv A H A (upd H D (.dK (putK ks c z))) := ⟨fun b hb => .inl hb, fun b ob e3 hb => by
      rw [upd_ne]
      · exact e3
      · intro w
        subst w
        rcases hb with hb | hb
        · exact hb hA
        · rw [e] at e3
          cases e3
          exact hb⟩
    exact .inl ⟨rfl, _, upd_same, RepK.move mv _ _ (put_K hc rd rr nd)⟩
  · obtain ⟨c, hc, hd⟩ := keyT hk
    obtain ⟨zz, hsm, xs, rel, dd, o0, en, ep, g1, g2, g3, g4, g5⟩ := dic_rd (X := X.blk s0 H0 sc ce fp) I e rr
    have hk' := hk
    have nd : (es.1.map (·.1)).Nodup := by
      rw [pt_keys rel]
      exact g5
    cases k with
    | tup xs' =>
      have rk0 := rk
      simp only [Rep] at rk
      obtain ⟨b', vs, rfl, q1, q2⟩ := rk
      cases (show u = Value.ref b' from ry)
      have hlen := rr.len
      have hsz : SZ = sizeLine := rfl
      have hz : xs.length ≤ sizeLine := by rw [← Paired.length rel]; exact zz
      have rp := put_T hc hk rk0 rd rr nd
      have pp := pt_put rel c b' rz
      refine wpAny_dictSet_heap (hsz := hz) (by show X.A.units + 8 < cLine; omega) (is_of (X := X.blk s0 H0 sc ce fp) (A := A) I hk hc rk0) dd fun h' dd' hs => ?_
      obtain ⟨q0, en', ep', hq, h2, h3, h4, _, h5⟩ := dd'
      have mv : Mv A H A (upd H D (dicT D (putE es.1 c b' z, en', ep'))) := ⟨fun b hb => .inl hb, fun b ob e3 hb => by
        rw [upd_ne]
        · exact e3
        · intro w
          subst w
          rcases hb with hb | hb
          · exact hb hA
          · rw [e] at e3
            cases e3
            exact hb⟩
      refine go _ (upd H D (dicT D (putE es.1 c b' z, en', ep'))) ?_ (q _ (.inr ⟨rfl, _, upd_same, RepT.move mv _ _ rp⟩))
      refine d_write (X := X.blk s0 H0 sc ce fp) I (by rw [e]; exact True.intro) hs ⟨q0, hq⟩ ⟨⟨hsm, ?_, _, pp, q0, hq, h2, h3, ?_, h5⟩, ⟨q0, hq⟩, ?_⟩
      · have := putE_len es.1 c b' z
        show (putE es.1 c b' z).length ≤ sizeLine
        omega
      · have h4' : en'.toList = (storedH xs c b' r).map (entW X.w) := h4
        rw [h4', CW.eq (X := X)]
      · rintro h1 h2 ⟨y1, y2, xs', y3, o', z1, z2⟩ hk2
        exact ⟨y1, y2, xs', y3, o', hk2 _ z1, z2⟩
    | _ => simp [keyOk] at hk
def newO (t : Bool) (D : Addr) : HO := if t then dicT D emp else .dK []
theorem newO_ok {P : Program} {w : World} (t : Bool) (h : Heap) (H : Hp) (hb : sysModules < h.objs.size) : ObjOk P w H (h.push { cls := .type "dict", data := .dict #[] }) h.objs.size (newO t h.objs.size) := by
  cases t with
  | false => exact dk_empty h hb
  | true => exact dicT_empty h hb
theorem newO_at {K : Frag} {A : AS} {H : Hp} {D : Addr} (t : Bool) : DicAt K A (upd H D (newO t D)) D t [] := by
  cases t with
  | false => exact .inl ⟨rfl, [], upd_same, by simp [RepK]⟩
  | true => exact .inr ⟨rfl, emp, upd_same, by simp [RepT, emp]⟩
theorem dcL_drop {tk : Bool} {f : D → Res (Option (D × D))} {xs : List D} {acc : List (D × D)} {i : Nat} {G : List (D × D) → Prop} {F : String → List (String × D) → Prop} (hi : i < xs.length) (h : Out (dcL tk f (xs.drop i) acc) G F) :
    Out (f xs[i]) (fun o => match o with
      | some (k, v) => keyOk tk k = true ∧ Out (dcL tk f (xs.drop (i + 1)) (putD k v acc)) G F
      | none => Out (dcL tk f (xs.drop (i + 1)) acc) G F) F := by
  rw [List.drop_eq_getElem_cons hi] at h
  unfold dcL at h
  refine (Out.bind h).good fun o h2 => ?_
  cases o with
  | none => exact h2
  | some p =>
    obtain ⟨k, v⟩ := p
    dsimp only at h2 ⊢
    split at h2
    · rename_i hk
      exact ⟨hk, h2⟩
    · exact h2.elim
section
variable {X : Cx} [CW X] {W : WX} {ow : Ow}
theorem dc_of {K : Frag} {tk : Bool} {it : IM} {vs ts : List Nat} {g : GM} {t : TM} {ek ev : EM} (hx : ow.x = none) (hts : ∀ j ∈ ts, j ∈ vs) {σ : L2.St} {H : Hp} {Q : VK} (h : tF K W ow (dcE tk it vs g t ek ev) σ H Q) :
    tDG (newO tk) (StD K) (tI Gr K W ow it) (tGt K ow ts g) (tT K W0 ow t) (tE K W0 ow ek) (tE K W0 ow ev) vs σ H Q := by
  obtain ⟨A, H0, O, en, R, q⟩ := h
  refine ⟨A, H0, O, en, R, (Out.bind q).good fun xs q1 J H1 s1 itm D hD => ?_⟩
  have q1' : Out (if xs.length ≤ SZ then noexc (dcL tk (dcF vs g t ek ev en) xs []) >>= fun kvs => Res.ok (Py.D.dic tk kvs) else .stuck) _ _ := q1
  split at q1'
  case isFalse => exact q1'.elim
  rename_i hsz
  have q2 := noexc_of (bad' := Nev) q1'
  have hsl : SZ = sizeLine := rfl
  have R1 := R.to s1
  have hAD : ¬ AO A O D := fun z => R1.there D z hD
  generalize hA' : (fun b => A b ∨ b = D : AS) = A'
  have hA1 : ∀ b, AO A' O b → AO A O b ∨ b = D := fun b hb => by
    subst hA'
    rcases hb with (hb | hb) | hb
    · exact .inl (.inl hb)
    · exact .inr hb
    · exact .inl (.inr hb)
  have hA2 : ∀ b, AO A O b ∨ b = D → AO A' O b := fun b hb => by
    subst hA'
    rcases hb with (hb | hb) | hb
    · exact .inl (.inl hb)
    · exact .inr hb
    · exact .inl (.inr hb)
  let fin : List (Py.D × Py.D) → Prop := fun kvs => ∀ H', Same H1 H' → DicAt K (AO A' O) H' D tk kvs → Q (.ref D) H'
  have q3 : Out (dcL tk (dcF vs g t ek ev en) (xs.drop 0) []) fin Nev := q2.good fun kvs z H' s' dat => by
    have z' : ∀ (a : Addr) (H' : Hp), H a = none → Same H H' → OwnAt K (fun b => AO A O b ∨ b = a) H' a (.dic tk kvs) → Q (.ref a) H' := z
    refine z' D H' (s1.free hD) (s1.trans s') (dat.move (Mv.less fun b hb => hA2 b hb) rfl)
  refine ⟨fun i m H' => m = xs.length - i ∧ i ≤ xs.length ∧ ∃ acc, DicAt K (AO A' O) H' D tk acc ∧ Same H1 H' ∧ acc.length ≤ i ∧ Out (dcL tk (dcF vs g t ek ev en) (xs.drop i) acc) fin Nev,
    ⟨xs.length, by simp, Nat.zero_le _, [], newO_at tk, new_same hD, by simp, q3⟩, ?_⟩
  rintro i m H' ⟨rfl, hi, acc, dat, s2, hal, hz⟩
  have im := itm i (AO A' O) H' ⟨fun b hb => (hA1 b hb).elim .inl fun z => by rw [z]; exact .inr hD, s2⟩
  by_cases hlt : i < xs.length
  · right
    obtain ⟨hgo, hy⟩ := im.1 hlt
    have hf := dcL_drop hlt hz
    refine ⟨hgo, fun H'' => ∃ acc, DicAt K (AO A' O) H'' D tk acc ∧ Same H1 H'' ∧ acc.length ≤ i + 1 ∧ Out (dcL tk (dcF vs g t ek ev en) (xs.drop (i + 1)) acc) fin Nev,
      fun H'' ⟨acc', h1, h2, h3, h4⟩ => ⟨xs.length - (i + 1), by omega, rfl, hlt, acc', h1, h2, h3, h4⟩, fun x H3 y => ?_⟩
    obtain ⟨s3, d, hd, rd⟩ := hy x H3 y
    have hd' : d = xs[i] := by
      rw [List.getElem?_eq_getElem hlt] at hd
      exact (Option.some.inj hd).symm
    subst hd'
    unfold dcF at hf
    cases hg : g xs[i] (wipe en vs) with
    | none => rw [hg] at hf; exact hf.elim
    | some e1 =>
      rw [hg, lift_some, bind_ok] at hf
      have s13 := s2.trans s3
      have datS : ∀ {H4 : Hp}, Same H' H4 → DicAt K (AO A' O) H4 D tk acc := fun {H4} s4 => dat.move (Mv.same s4) (by
        rcases dat with ⟨_, ks, e, _⟩ | ⟨_, es, e, _⟩
        · rw [e]; exact s4 _ _ e
        · rw [e]; exact s4 _ _ e)
      have hD3 : H3 D ≠ none := by
        rcases datS s3 with ⟨_, ks, e, _⟩ | ⟨_, es, e, _⟩
        · rw [e]; exact fun z => nomatch z
        · rw [e]; exact fun z => nomatch z
      have R3 : ER K A' H0 ow O (L2.wipe σ vs) H3 (wipe en vs) := ((R1.more (A' := A') (H' := H3) (fun b hb => by
        rcases hA1 b (.inl hb) with z | z
        · exact (R1.to s13).there b z
        · rw [z]
          exact hD3) s13 (fun b hb => by
        subst hA'
        rcases hb with hb | hb
        · exact .inl hb
        · rw [hb]
          exact .inr hD) (fun b hb => by
        subst hA'
        exact .inl hb))).wipe vs hx
      refine ⟨A', H0, O, wipe en vs, xs[i], e1, R3, rd, hg, fun σ1 Rσ l1 k1 => ⟨?_, ?_⟩⟩
      · have w1 := wipe_eq (vs := vs) (σ := L2.wipe σ vs) (σ' := σ1) l1 fun j hj => k1 j fun z => hj (hts j z)
        rw [w1]
        exact wipe_eq (L2.wipe_length _ _) fun j hj => L2.wipe_out hj
      · refine ⟨A', H0, O, e1, Rσ, (Out.bind hf).imp (fun bb _ hf => ?_) fun _ _ z => z.elim⟩
        intro H4 s4
        cases bb with
        | false =>
          rw [if_neg (by decide)] at hf ⊢
          exact ⟨acc, datS (s3.trans s4), s2.trans (s3.trans s4), by omega, hf⟩
        | true =>
          rw [if_pos rfl] at hf ⊢
          refine ⟨A', H0, O, e1, Rσ.to s4, (Out.bind hf).imp (fun kd _ hf => ?_) fun _ _ z => z.elim⟩
          intro y5 H5 s5 r5
          refine ⟨A', H0, O, e1, (Rσ.to s4).to s5, (Out.bind hf).imp (fun vd _ hf => ?_) fun _ _ z => z.elim⟩
          intro z6 H6 s6 r6
          obtain ⟨hk, hf⟩ : keyOk tk kd = true ∧ Out (dcL tk (dcF vs g t ek ev en) (xs.drop (i + 1)) (putD kd vd acc)) fin Nev := hf
          have sAll : Same H' H6 := ((s3.trans s4).trans s5).trans s6
          refine ⟨AO A' O, tk, acc, kd, vd, D, rfl, hA2 D (.inr rfl), datS sAll, Rep.move (Mv.same s6) _ _ r5, r6, hk, by omega, fun ob dat' => ⟨putD kd vd acc, dat', fun b o e => ?_, ?_, hf⟩⟩
          · rw [upd_ne (ne_of_none e hD)]
            exact sAll _ _ (s2 _ _ e)
          · have := putD_len kd vd acc
            omega
  · left
    refine ⟨im.2 (by omega), ?_⟩
    have hi2 : i = xs.length := by omega
    subst hi2
    rw [List.drop_length] at hz
    exact (show fin acc from hz) H' s2 dat
variable {kx vx tg iter : Expr} {ifs : List Expr} {scope : Scope} {own : List (Str × Nat)} {it : IM} {g : GM} {t : TM} {mk mv : EM} {ts : List Nat} {pos : Pos} {j : Nat}
/-- {k: v for tg in iter if ..} -/
theorem f_dc (tk : Bool) (T : Ctx X W j) (hi : PI X tg iter (tI Gr X.K W ow it)) (ok : BlkOk X.N X.env.scope scope own)
    (hg : ∀ (s : Shared) (H : Hp) (C : Addr) (cl : List (Str × Addr)) (fp : List Addr), Ctx (X.blk s H scope (compEnvC scope cl C X.env) fp) W0 j → PG (X.blk s H scope (compEnvC scope cl C X.env) fp) tg (tGt X.K ow ts g))
    (ht : ∀ (s : Shared) (H : Hp) (C : Addr) (cl : List (Str × Addr)) (fp : List Addr), Ctx (X.blk s H scope (compEnvC scope cl C X.env) fp) W0 j → PTs (X.blk s H scope (compEnvC scope cl C X.env) fp) ifs (tT X.K W0 ow t))
    (hk : ∀ (s : Shared) (H : Hp) (C : Addr) (cl : List (Str × Addr)) (fp : List Addr), Ctx (X.blk s H scope (compEnvC scope cl C X.env) fp) W0 j → PE (X.blk s H scope (compEnvC scope cl C X.env) fp) kx (tE X.K W0 ow mk))
    (hv : ∀ (s : Shared) (H : Hp) (C : Addr) (cl : List (Str × Addr)) (fp : List Addr), Ctx (X.blk s H scope (compEnvC scope cl C X.env) fp) W0 j → PE (X.blk s H scope (compEnvC scope cl C X.env) fp) vx (tE X.K W0 ow mv))
    (hts : ∀ i ∈ ts, i ∈ own.map (·.2)) (hx : ow.x = none := by rfl) (hs : ∀ x, foldedSetIterable iter X.env x = pure x := by intro _; rfl) :
    PE X (.DictComp kx vx [⟨tg, iter, ifs, 0⟩] scope pos) (tF X.K W ow (dcE tk it (own.map (·.2)) g t mk mv)) :=
  PE.of (pe_dG T.calm T.nd hi ok (fun s H C cl fp => hg s H C cl fp (T.blk ..)) (fun s H C cl fp => ht s H C cl fp (T.blk ..)) (fun s H C cl fp => hk s H C cl fp (T.blk ..)) (fun s H C cl fp => hv s H C cl fp (T.blk ..)) (newO_ok tk) (stores_any (by have := T.hr.un; omega)) hs) fun _ _ _ h => dc_of hx hts h
end
end Py
/-! A dict's keys walked, list(d), str(i). -/
/-! for t in zip(a, b), t a name. -/
/-! Texts: join, split, f-strings, int of a text, signs. -/
namespace Py
open PySem PySem.Spec PyProof.Rows L2 TL PySem.StrLaws
/-! ### the functions are the model's -/
theorem toNat_inj {a b : Char} (h : a.toNat = b.toNat) : a = b := Char.ext (UInt32.toNat_inj.mp h)
variable [WI]
end Py
/-! Every other item of a list: xs[::2], xs[k::2]. -/
/-! max of a tuple. -/
/-! One sign not in a text. -/
/-! xs.index(x) of a list of flat things. -/
/-! An own object is lent; its inner objects change. -/
namespace Py
variable [WI]
open PySem L2
/-- the inner objects that the datum shows -/
def usd : D → Bool → Bool
  | .ins c fs, t => fs.any fun q => inn c q.1 && ixF q.1 == t
  | _, _ => false
def useG (d : D) (G : GW) : GW := fun t => if usd d t = true then G t else none
theorem useG_some {d : D} {G : GW} {t : Bool} {b : Addr} (h : useG d G t = some b) : usd d t = true ∧ G t = some b := by
  unfold useG at h
  split at h
  · rename_i z
    exact ⟨z, h⟩
  · cases h
theorem RepI.use {K : Frag} {A : AS} {G G' : GW} {H : Hp} {c : String} : ∀ {fs : List (String × D)} {vs : List (Str × V)}, (∀ n d, (n, d) ∈ fs → inn c n = true → G' (ixF n) = G (ixF n)) → RepI K A G H c fs vs → RepI K A G' H c fs vs
  | [], vs, _, h => h
  | (n, d) :: fs, vs, hg, h => by
    obtain ⟨v, q, e, h1, h2⟩ := h
    refine ⟨v, q, e, ?_, RepI.use (fun n d hm => hg n d (List.mem_cons_of_mem _ hm)) h2⟩
    have z := hg n d List.mem_cons_self
    cases hi : inn c n with
    | true =>
      rw [hi] at h1
      obtain ⟨b, g, e2, o⟩ := h1
      exact ⟨b, (z hi).trans g, e2, o⟩
    | false =>
      rw [hi] at h1
      exact h1
theorem OwnG.use {K : Frag} {A : AS} {G : GW} {H : Hp} {a : Addr} {d : D} (h : OwnG K A G H a d) : OwnG K A (useG d G) H a d := by
  cases d with
  | ins c fs =>
    obtain ⟨dx, fvs, e, r⟩ := h
    refine ⟨dx, fvs, e, r.use fun n d hm hi => ?_⟩
    unfold useG
    rw [if_pos]
    exact List.any_eq_true.mpr ⟨(n, d), hm, by simp [hi]⟩
  | lst _ => exact h
  | dic _ _ => exact h
  | _ => exact h.elim
theorem RepI.used {K : Frag} {A : AS} {G : GW} {H : Hp} {c : String} {t : Bool} : ∀ {fs : List (String × D)} {vs : List (Str × V)}, RepI K A G H c fs vs → (fs.any fun q => inn c q.1 && ixF q.1 == t) = true → ∃ b d, G t = some b ∧ OwnAt K A H b d
  | [], vs, h, z => by cases z
  | (n, d) :: fs, vs, h, z => by
    obtain ⟨v, q, e, h1, h2⟩ := h
    rw [List.any_cons, Bool.or_eq_true] at z
    rcases z with z | z
    · rw [Bool.and_eq_true] at z
      dsimp only at z
      rw [z.1] at h1
      obtain ⟨b, g, _, o⟩ := h1
      rw [show ixF n = t by simpa using z.2] at g
      exact ⟨b, d, g, o⟩
    · exact RepI.used h2 z
theorem OwnG.inner {K : Frag} {A : AS} {G : GW} {H : Hp} {a : Addr} {d : D} (h : OwnG K A G H a d) {t : Bool} {b : Addr} (hb : useG d G t = some b) : ∃ u, H b = some u ∧ ¬ still u ∧ ∀ fvs, u ≠ .xd fvs := by
  obtain ⟨z, g⟩ := useG_some hb
  cases d with
  | ins c fs =>
    obtain ⟨dx, fvs, e, r⟩ := h
    obtain ⟨b', d', g', o⟩ := r.used z
    rw [g] at g'
    cases g'
    exact o.obj
  | _ => cases z
/-- the heap without the object at a and its inner ones -/
def cutH (a : Addr) (G : GW) (H : Hp) : Hp := fun b => if b = a ∨ G false = some b ∨ G true = some b then none else H b
theorem cut_out {a b : Addr} {G : GW} {H : Hp} (h1 : b ≠ a) (h2 : ∀ t, G t ≠ some b) : cutH a G H b = H b := if_neg fun z => by
  rcases z with z | z | z
  · exact h1 z
  · exact h2 false z
  · exact h2 true z
theorem cut_none {a b : Addr} {G : GW} {H : Hp} (h : cutH a G H b = none) : b = a ∨ (∃ t, G t = some b) ∨ H b = none := by
  unfold cutH at h
  split at h
  · rename_i z
    rcases z with z | z | z
    · exact .inl z
    · exact .inr (.inl ⟨_, z⟩)
    · exact .inr (.inl ⟨_, z⟩)
  · exact .inr (.inr h)
theorem cut_at {a : Addr} {G : GW} {H : Hp} : cutH a G H a = none := if_pos (.inl rfl)
theorem cut_in {a b : Addr} {G : GW} {H : Hp} {t : Bool} (h : G t = some b) : cutH a G H b = none := if_pos (by cases t; exact .inr (.inl h); exact .inr (.inr h))
theorem cut_same {a : Addr} {G : GW} {H : Hp} : Same (cutH a G H) H := fun b o e => by
  unfold cutH at e
  split at e
  · cases e
  · exact e
/-- an own object comes back -/
def lentO (i : Nat) (a : Addr) (G : GW) (O : OW) : OW := fun j => if j = 3 * i then some a else if j = 3 * i + 1 then G false else if j = 3 * i + 2 then G true else O j
theorem lent_self {i : Nat} {a : Addr} {G : GW} {O : OW} : lentO i a G O (3 * i) = some a := if_pos rfl
theorem lent_gh {i : Nat} {a : Addr} {G : GW} {O : OW} : gh (lentO i a G O) i = G := by
  funext t
  unfold gh lentO
  cases t
  · rw [if_neg (by simp), if_pos (by simp)]
  · rw [if_neg (by simp), if_neg (by simp), if_pos (by simp)]
theorem lent_other {i j : Nat} {a : Addr} {G : GW} {O : OW} (h : j / 3 ≠ i) : lentO i a G O j = O j := by
  unfold lentO
  rw [if_neg (by omega), if_neg (by omega), if_neg (by omega)]
theorem lent_cases {i j : Nat} {a b : Addr} {G : GW} {O : OW} (h : lentO i a G O j = some b) : (j = 3 * i ∧ b = a) ∨ (∃ t : Bool, j = 3 * i + (if t then 2 else 1) ∧ G t = some b) ∨ (j / 3 ≠ i ∧ O j = some b) := by
  unfold lentO at h
  split at h
  · rename_i z
    exact .inl ⟨z, (Option.some.inj h).symm⟩
  · rename_i z
    split at h
    · rename_i z1
      exact .inr (.inl ⟨false, by simpa using z1, h⟩)
    · rename_i z1
      split at h
      · rename_i z2
        exact .inr (.inl ⟨true, by simpa using z2, h⟩)
      · rename_i z2
        exact .inr (.inr ⟨by omega, h⟩)
/-- what the callee must leave alone -/
def Ac (A : AS) (i : Nat) (O : OW) : AS := fun b => A b ∨ ∃ j, j / 3 ≠ i ∧ O j = some b
theorem third (i : Nat) (t : Bool) : (3 * i + if t then 2 else 1) / 3 = i := by cases t <;> simp <;> omega
section
variable {K : Frag} {A : AS} {H0 : Base} {ow : Ow} {O : OW} {σ : L2.St} {H H' : Hp} {e : Env} {i : Nat} {a : Addr} {G : GW} {o l : D}
theorem ac_sub (p1 : O (3 * i) = some a) (hG : ∀ t b, G t = some b → gh O i t = some b) : ∀ b, gA (Ac A i O) a G b → AO A O b := fun b h => by
  rcases h with ((h | ⟨j, _, h⟩) | h) | ⟨t, h⟩
  · exact .inl h
  · exact .inr ⟨j, h⟩
  · rw [h]
    exact .inr ⟨_, p1⟩
  · exact .inr ⟨_, hG t b h⟩
theorem ER.lend (R : ER K A H0 ow O σ H e) (p1 : O (3 * i) = some a) : ¬ Ac A i O a := fun z => by
  rcases z with z | ⟨j, hj, z⟩
  · exact (R.fresh _ a p1).2.2 z
  · have := R.inj _ _ a p1 z
    omega
theorem ER.innG (R : ER K A H0 ow O σ H e) (p1 : O (3 * i) = some a) (hG : ∀ t b, G t = some b → gh O i t = some b) : Inn (Ac A i O) (fun _ => True) H a G := by
  refine ⟨fun t b h => ⟨trivial, (R.fresh _ b (hG t b h)).2.1, fun z => ?_, fun w => ?_⟩, fun t t' b h h' => ?_⟩
  · rcases z with z | ⟨j, hj, z⟩
    · exact (R.fresh _ b (hG t b h)).2.2 z
    · have := R.inj _ _ b (hG t b h) z
      rw [← this, third] at hj
      exact hj rfl
  · subst w
    have := R.inj _ _ b p1 (hG t b h)
    cases t <;> simp at this
  · have := R.inj _ _ b (hG t b h) (hG t' b h')
    cases t <;> cases t' <;> simp at this <;> rfl
/-- slot i's object comes back changed -/
theorem ER.lent {G' : GW} (R : ER K A H0 ow O σ H e) (hi : ow i = true) (he : e[i]? = some (some o)) (p1 : O (3 * i) = some a) (s : Same (cutH a (useG o (gh O i)) H) H') (n : Inn (Ac A i O) (fun b => cutH a (useG o (gh O i)) H b = none) H' a G')
    (g : OwnG K (gA (Ac A i O) a G') G' H' a l) : ER K A H0 ow (lentO i a G' O) σ H' (e.set i (some l)) ∧ Mv (AO A O) H (AO A (lentO i a G' O)) H' ∧ ∀ b, AO A (lentO i a G' O) b → gA (Ac A i O) a G' b := by
  obtain ⟨a1, q1, q2, r⟩ := R.owns i o he hi
  rw [p1] at q1
  cases q1
  -- what is neither the object nor within it is kept
  have out : ∀ b, b ≠ a → (∀ t, useG o (gh O i) t ≠ some b) → H b ≠ none → H' b = H b := fun b h1 h2 h3 => by
    cases z : H b with
    | none => exact absurd z h3
    | some u => exact s b u ((cut_out h1 h2).trans z)
  have far : ∀ j b, j / 3 ≠ i → O j = some b → b ≠ a ∧ ∀ t, useG o (gh O i) t ≠ some b := fun j b hj hb => ⟨fun w => by
    subst w
    have := R.inj _ _ b p1 hb
    omega, fun t z => by
    have := R.inj _ _ b (useG_some z).2 hb
    rw [← this, third] at hj
    exact hj rfl⟩
  have sub : ∀ b, AO A (lentO i a G' O) b → gA (Ac A i O) a G' b := fun b h => by
    rcases h with h | ⟨j, h⟩
    · exact .inl (.inl (.inl h))
    · rcases lent_cases h with ⟨_, h⟩ | ⟨t, _, h⟩ | ⟨hj, h⟩
      · exact .inl (.inr h)
      · exact .inr ⟨t, h⟩
      · exact .inl (.inl (.inr ⟨j, hj, h⟩))
  have na : ∀ b, A b → b ≠ a ∧ ∀ t, useG o (gh O i) t ≠ some b := fun b hb => ⟨fun w => by
    subst w
    exact (R.fresh _ b p1).2.2 hb, fun t z => (R.fresh _ b (useG_some z).2).2.2 hb⟩
  have nh : ∀ b, H0.hp b ≠ none → b ≠ a ∧ ∀ t, useG o (gh O i) t ≠ some b := fun b hb => ⟨fun w => by
    subst w
    exact hb (R.fresh _ b p1).1, fun t z => hb (R.fresh _ b (useG_some z).2).1⟩
  have mv : Mv (AO A O) H (AO A (lentO i a G' O)) H' := ⟨fun b hb => by
    rcases hb with hb | ⟨j, hb⟩
    · exact .inl (.inl hb)
    · rcases lent_cases hb with ⟨_, hb⟩ | ⟨t, _, hb⟩ | ⟨_, hb⟩
      · rw [hb]
        exact .inl (.inr ⟨_, p1⟩)
      · rcases cut_none (n.new t b hb).1 with z | ⟨t', z⟩ | z
        · rw [z]
          exact .inl (.inr ⟨_, p1⟩)
        · exact .inl (.inr ⟨_, (useG_some z).2⟩)
        · exact .inr z
      · exact .inl (.inr ⟨j, hb⟩), fun b u e1 hb => by
    have hne : H b ≠ none := by rw [e1]; exact fun z => nomatch z
    refine (out b (fun w => ?_) (fun t z => ?_) hne).trans e1
    · subst w
      rcases hb with hb | hb
      · exact hb (.inr ⟨_, p1⟩)
      · obtain ⟨u', e2, hs, _⟩ := r.obj
        rw [e1] at e2
        cases e2
        exact hs hb
    · rcases hb with hb | hb
      · exact hb (.inr ⟨_, (useG_some z).2⟩)
      · obtain ⟨u', e2, hs, _⟩ := r.inner z
        rw [e1] at e2
        cases e2
        exact hs hb⟩
  have hslot : ∀ j d, (e.set i (some l))[j]? = some (some d) → j ≠ i → e[j]? = some (some d) := fun j d h hj => by
    rwa [List.getElem?_set_ne fun z => hj z.symm] at h
  have ha' : H' a ≠ none := by
    obtain ⟨u, hu, _⟩ := g.obj
    rw [hu]
    exact fun z => nomatch z
  refine ⟨⟨by simp [R.len], fun b hb => ?_, fun b u e1 => ?_, fun j d h1 h2 => ?_, fun j d h1 h2 => ?_, fun j b hb => ?_, fun j k b hj hk => ?_, fun b hb => ?_, fun q hq => ?_⟩, mv, sub⟩
  · rw [out b (na b hb).1 (na b hb).2 (R.a0 b hb)]
    exact R.a0 b hb
  · have hne : H0.hp b ≠ none := by rw [e1]; exact fun z => nomatch z
    have e2 := R.same b u e1
    rw [out b (nh b hne).1 (nh b hne).2 (by rw [e2]; exact fun z => nomatch z)]
    exact e2
  · have hj : j ≠ i := fun z => by
      rw [z, hi] at h2
      cases h2
    obtain ⟨v, q, r1⟩ := R.vals j d (hslot j d h1 hj) h2
    exact ⟨v, q, Rep.move mv _ _ r1⟩
  · by_cases hj : j = i
    · subst hj
      have hl : j < e.length := (List.getElem?_eq_some_iff.mp he).1
      rw [List.getElem?_set_self hl] at h1
      cases h1
      refine ⟨a, lent_self, q2, ?_⟩
      rw [lent_gh]
      exact g.move (Mv.less sub) rfl fun t b z => ⟨z, rfl⟩
    · obtain ⟨b, r1, r2, r3⟩ := R.owns j d (hslot j d h1 hj) h2
      have f1 := far _ b (by omega) r1
      refine ⟨b, (lent_other (by omega)).trans r1, r2, r3.move mv (out b f1.1 f1.2 (R.fresh _ b r1).2.1) fun t c z => ?_⟩
      have hj2 : (3 * j + if t then 2 else 1) / 3 ≠ i := by rw [third]; exact hj
      have f2 := far _ c hj2 z
      exact ⟨(lent_other hj2).trans z, out c f2.1 f2.2 (R.fresh _ c z).2.1⟩
  · rcases lent_cases hb with ⟨_, hb⟩ | ⟨t, _, hb⟩ | ⟨hj, hb⟩
    · subst hb
      exact ⟨(R.fresh _ b p1).1, ha', (R.fresh _ b p1).2.2⟩
    · obtain ⟨z1, z2, z3, z4⟩ := n.new t b hb
      refine ⟨?_, z2, fun w => z3 (.inl w)⟩
      rcases cut_none z1 with z | ⟨t', z⟩ | z
      · exact absurd z z4
      · exact (R.fresh _ b (useG_some z).2).1
      · cases w : H0.hp b with
        | none => rfl
        | some u => rw [R.same b u w] at z; cases z
    · have f1 := far j b hj hb
      rw [out b f1.1 f1.2 (R.fresh _ b hb).2.1]
      exact R.fresh _ b hb
  · have key : ∀ t j b, G' t = some b → j / 3 ≠ i → O j = some b → False := fun t j b h1 hj h2 => by
      have z := (n.new t b h1).2.2.1
      exact z (.inr ⟨j, hj, h2⟩)
    rcases lent_cases hj with ⟨z1, z2⟩ | ⟨t, z1, z2⟩ | ⟨z1, z2⟩ <;> rcases lent_cases hk with ⟨y1, y2⟩ | ⟨t', y1, y2⟩ | ⟨y1, y2⟩
    · omega
    · exact absurd z2 (n.new t' b y2).2.2.2
    · exact absurd z2 (far k b y1 y2).1
    · exact absurd y2 (n.new t b z2).2.2.2
    · rw [z1, y1, n.inj t t' b z2 y2]
    · exact (key t k b z2 y1 y2).elim
    · exact absurd y2 (far j b z1 z2).1
    · exact (key t' j b y2 z1 z2).elim
    · exact R.inj j k b z2 y2
  · have z := R.pin b hb
    by_cases h0 : i = 0
    · subst h0
      have e1 : b = a := Option.some.inj (z.symm.trans p1)
      rw [e1]
      exact lent_self
    · exact (lent_other (by omega)).trans z
  · obtain ⟨h1, h2, h3, fvs, h4, h5⟩ := R.exq q hq
    refine ⟨h1, h2, fun d z => ?_, fvs, ?_, RepF.move mv _ _ h5⟩
    · by_cases hj : q.i = i
      · exact h3 o (hj ▸ he)
      · exact h3 d (hslot _ d z hj)
    · refine (out q.da (fun w => ?_) (fun t z => ?_) (by rw [h4]; exact fun z => nomatch z)).trans h4
      · obtain ⟨u, e2, _, hx⟩ := r.obj
        rw [← w, h4] at e2
        exact hx fvs (Option.some.inj e2).symm
      · obtain ⟨u, e2, _, hx⟩ := r.inner z
        rw [h4] at e2
        exact hx fvs (Option.some.inj e2).symm
/-! ### an inner object changes -/
theorem inn_ix {c n f : String} (h1 : inn c n = true) (h2 : inn c f = true) (h : ixF n = ixF f) : n = f := by
  unfold inn at h1 h2
  unfold ixF at h
  simp only [Bool.or_eq_true, Bool.and_eq_true, beq_iff_eq] at h1 h2
  rcases h1 with (⟨rfl, rfl | rfl⟩ | ⟨rfl, rfl⟩) | ⟨rfl, rfl⟩ <;> rcases h2 with (⟨e, rfl | rfl⟩ | ⟨e, rfl⟩) | ⟨e, rfl⟩ <;> first | rfl | (simp at h; done) | (simp at e; done)
theorem RepI.upd1 {K : Frag} {A A' : AS} {G : GW} {H H' : Hp} {c f : String} {b : Addr} {d1 : D} (hf : inn c f = true) (m : Mv A H A' H') (hb : G (ixF f) = some b) (kg : ∀ t c, t ≠ ixF f → G t = some c → H' c = H c) (o : OwnAt K A' H' b d1) :
    ∀ {fs : List (String × D)} {vs : List (Str × V)}, (fs.map (·.1)).Nodup → (fs.lookup f).isSome = true → RepI K A G H c fs vs → RepI K A' G H' c (putF f d1 fs) vs
  | [], vs, _, z, h => by cases z
  | (n, d0) :: fs, vs, nd, z, h => by
    obtain ⟨v, q, e, h1, h2⟩ := h
    simp only [List.map_cons, List.nodup_cons] at nd
    by_cases hn : n = f
    · subst hn
      simp only [putF, if_pos]
      refine ⟨v, q, e, ?_, ?_⟩
      · rw [hf] at h1 ⊢
        obtain ⟨b', g, e2, _⟩ := h1
        rw [hb] at g
        cases g
        exact ⟨b, hb, e2, o⟩
      · have rest : ∀ {fs : List (String × D)} {vs : List (Str × V)}, n ∉ fs.map (·.1) → RepI K A G H c fs vs → RepI K A' G H' c fs vs := by
          intro fs
          induction fs with
          | nil => intro vs _ h; exact h
          | cons x fs ih =>
            intro vs hx h
            obtain ⟨v, q, e, h1, h2⟩ := h
            simp only [List.map_cons, List.mem_cons, not_or] at hx
            refine ⟨v, q, e, ?_, ih hx.2 h2⟩
            cases hi : inn c x.1 with
            | true =>
              rw [hi] at h1
              obtain ⟨b', g, e2, o'⟩ := h1
              exact ⟨b', g, e2, o'.move m (kg _ _ (fun w => hx.1 (inn_ix hi hf w).symm) g)⟩
            | false =>
              rw [hi] at h1
              exact Rep.move m _ _ h1
        exact rest nd.1 h2
    · simp only [putF, if_neg hn]
      have hn' : (f == n) = false := beq_eq_false_iff_ne.mpr fun w => hn w.symm
      simp only [List.lookup_cons, hn'] at z
      refine ⟨v, q, e, ?_, RepI.upd1 hf m hb kg o nd.2 z h2⟩
      cases hi : inn c n with
      | true =>
        rw [hi] at h1
        obtain ⟨b', g, e2, o'⟩ := h1
        exact ⟨b', g, e2, o'.move m (kg _ _ (fun w => hn (inn_ix hi hf w)) g)⟩
      | false =>
        rw [hi] at h1
        exact Rep.move m _ _ h1
/-- slot i's object has an inner one, which changes -/
theorem ER.writeI (R : ER K A H0 ow O σ H e) {c f : String} {fs : List (String × D)} {d1 : D} {b : Addr} {ob : HO} (hi : ow i = true) (he : e[i]? = some (some (.ins c fs))) (hf : inn c f = true) (nd : (fs.map (·.1)).Nodup) (hl : (fs.lookup f).isSome = true)
    (hb : gh O i (ixF f) = some b) (h : OwnAt K (AO A O) (upd H b ob) b d1) (hs : ∃ u, H b = some u ∧ ¬ still u ∧ ∀ fvs, u ≠ .xd fvs) : ER K A H0 ow O σ (upd H b ob) (e.set i (some (.ins c (putF f d1 fs)))) ∧ Mv (AO A O) H (AO A O) (upd H b ob) := by
  obtain ⟨u0, hu0, hs0, hx0⟩ := hs
  have mv : Mv (AO A O) H (AO A O) (upd H b ob) := ⟨fun c hc => .inl hc, fun c u e1 hc => by
    rw [upd_ne]
    · exact e1
    · intro z
      subst z
      rcases hc with hc | hc
      · exact hc (.inr ⟨_, hb⟩)
      · rw [hu0] at e1
        cases e1
        exact hs0 hc⟩
  have hne : ∀ {H1 : Hp} {c : Addr}, H1 c ≠ none → (upd H1 b ob) c ≠ none := fun {H1 c} h => by
    unfold upd
    split
    · exact fun z => nomatch z
    · exact h
  have far : ∀ j c, O j = some c → j ≠ (3 * i + if ixF f then 2 else 1) → upd H b ob c = H c := fun j c hc hj => upd_ne fun w => by
    subst w
    exact hj (R.inj _ _ c hc hb)
  have hslot : ∀ j d, (e.set i (some (.ins c (putF f d1 fs))))[j]? = some (some d) → j ≠ i → e[j]? = some (some d) := fun j d h hj => by
    rwa [List.getElem?_set_ne fun z => hj z.symm] at h
  refine ⟨⟨by simp [R.len], fun c hc => hne (R.a0 c hc), fun c u e1 => ?_, fun j dj h1 h2 => ?_, fun j dj h1 h2 => ?_, fun j c hc => ⟨(R.fresh j c hc).1, hne (R.fresh j c hc).2.1, (R.fresh j c hc).2.2⟩, R.inj, R.pin, fun q hq => ?_⟩, mv⟩
  · rw [upd_ne]
    · exact R.same c u e1
    · intro z
      rw [z, (R.fresh _ b hb).1] at e1
      cases e1
  · have hj : j ≠ i := fun z => by
      rw [z, hi] at h2
      cases h2
    obtain ⟨v, q, r⟩ := R.vals j dj (hslot j dj h1 hj) h2
    exact ⟨v, q, Rep.move mv _ _ r⟩
  · by_cases hj : j = i
    · subst hj
      have hlt := (List.getElem?_eq_some_iff.mp he).1
      rw [List.getElem?_set_self hlt] at h1
      cases h1
      obtain ⟨a, p1, p2, dx, fvs, p3, p4⟩ := R.owns j _ he hi
      refine ⟨a, p1, p2, dx, fvs, (far _ a p1 (by split <;> omega)).trans p3, RepI.upd1 hf mv hb (fun t c ht hc => far _ c hc fun w => ht ?_) h nd hl p4⟩
      cases t <;> cases hx : ixF f <;> simp [hx] at w ⊢
    · obtain ⟨a, p1, p2, p3⟩ := R.owns j dj (hslot j dj h1 hj) h2
      refine ⟨a, p1, p2, p3.move mv (far _ a p1 fun w => ?_) fun t c z => ⟨z, far _ c z fun w => ?_⟩⟩
      · have := third i (ixF f)
        rw [← w] at this
        omega
      · have h3 := third i (ixF f)
        rw [← w, third] at h3
        exact hj h3
  · obtain ⟨h1, h2, h3, fvs, h4, h5⟩ := R.exq q hq
    refine ⟨h1, h2, fun d z => ?_, fvs, ?_, RepF.move mv _ _ h5⟩
    · by_cases hj : q.i = i
      · exact h3 _ (hj ▸ he)
      · exact h3 d (hslot _ d z hj)
    · rw [upd_ne fun w => ?_]
      · exact h4
      · rw [w, hu0] at h4
        exact hx0 fvs (Option.some.inj h4)
end
end Py
/-! Expressions and statements that change own objects. -/
namespace Py
variable [WI]
open PySem L2
def tX (K : Frag) (W : WX) (ow : Ow) (m : XM) : TE := fun σ H Q => ∃ A H0 O e, ER K A H0 ow O σ H e ∧
  Out (m e) (fun p => ∀ v O' H', ER K A H0 ow O' σ H' p.2 → Mv (AO A O) H (AO A O') H' → Rep K (AO A O') H' p.1 v → Q v H') (badS K W A H0)
def tXT (K : Frag) (W : WX) (ow : Ow) (m : XT) : TT := fun σ H Q => ∃ A H0 O e, ER K A H0 ow O σ H e ∧
  Out (m e) (fun p => ∀ O' H', ER K A H0 ow O' σ H' p.2 → Mv (AO A O) H (AO A O') H' → Q p.1 H') (badS K W A H0)
def tXA (K : Frag) (W : WX) (ow : Ow) (m : XA) : TA := fun σ H Q => ∃ A H0 O e, ER K A H0 ow O σ H e ∧
  Out (m e) (fun p => ∀ vs O' H', ER K A H0 ow O' σ H' p.2 → Mv (AO A O) H (AO A O') H' → RepL K (AO A O') H' p.1 vs → Q vs H') (badS K W A H0)
/-- a new list -/
def tXF (K : Frag) (W : WX) (ow : Ow) (m : XM) : TE := fun σ H Q => ∃ A H0 O e, ER K A H0 ow O σ H e ∧
  Out (m e) (fun p => ∀ a O' H1 H', ER K A H0 ow O' σ H1 p.2 → Mv (AO A O) H (AO A O') H1 → H1 a = none → Same H1 H' → OwnAt K (fun b => AO A O' b ∨ b = a) H' a p.1 → Q (.ref a) H') (badS K W A H0)
section
variable {X : Cx} [CW X] {W : WX} {ow : Ow} {a b c e : Expr} {es : List Expr} {m : EM} {t0 : TM} {mx my : XM} {tx ty : XT} {am : XA} {pos : Pos}
theorem x_up (h : PE X e (tE X.K W ow m)) : PE X e (tX X.K W ow (upX m)) := PE.of h fun σ H Q ⟨A, H0, O, en, R, q⟩ => ⟨A, H0, O, en, R, ((Out.bind q).se R).good fun d q1 v H' s r => q1 v O H' (R.to s) (Mv.same s) r⟩
theorem x_upT (h : PT X e (tT X.K W ow t0)) : PT X e (tXT X.K W ow (upT t0)) := PT.of h fun σ H Q ⟨A, H0, O, en, R, q⟩ => ⟨A, H0, O, en, R, ((Out.bind q).se R).good fun d q1 H' s => q1 O H' (R.to s) (Mv.same s)⟩
/-- a new list as a value -/
theorem x_ofF (h : PE X e (tXF X.K W ow mx)) : PE X e (tX X.K W ow mx) := PE.of h fun σ H Q ⟨A, H0, O, en, R, q⟩ => ⟨A, H0, O, en, R, q.good fun p q1 a O' H1 H' R1 m1 n s r => by
  have na : ¬ AO A O' a := fun z => R1.there a z n
  have mv : Mv (fun b => AO A O' b ∨ b = a) H' (AO A O') H' := Mv.less fun b x => .inl x
  exact q1 (.ref a) O' H' (R1.to s) (m1.trans (Mv.same s)) (r.rep mv na)⟩
theorem xx_nil : PA X [] (tXA X.K W ow xaN) := PA.of pa_nil fun σ H Q ⟨A, H0, O, en, R, q⟩ => q [] O H R Mv.refl (by simp [RepL])
theorem xx_cons (ha : PE X e (tX X.K W ow mx)) (hr : PA X es (tXA X.K W ow am)) (hs : starEach (e :: es) X.env = (false, eval e X.env) :: starEach es X.env := by rfl) : PA X (e :: es) (tXA X.K W ow (xaC mx am)) :=
  PA.of (pa_cons ha hr hs) fun σ H Q ⟨A, H0, O, en, R, q⟩ => ⟨A, H0, O, en, R, (Out.bind q).good fun p q1 v O1 H1 R1 m1 r1 => ⟨A, H0, O1, p.2, R1, (Out.bind q1).good fun p2 q2 vs O2 H2 R2 m2 r2 =>
    q2 (v :: vs) O2 H2 R2 (m1.trans m2) (by
      simp only [RepL]
      exact ⟨v, vs, rfl, Rep.move m2 _ _ r1, r2⟩)⟩⟩
theorem two_ofX {f : D → D → Res D} (hf : NoEx2 f) {σ : L2.St} {H : Hp} {Q : VK} (h : tX X.K W ow (binX f mx my) σ H Q) : tOp (r2 X.K f) (tX X.K W ow mx) (tX X.K W ow my) σ H Q := by
  obtain ⟨A, H0, O, en, R, q⟩ := h
  refine ⟨A, H0, O, en, R, (Out.bind q).good fun p q1 v1 O1 H1 R1 m1 r1 => ⟨A, H0, O1, p.2, R1, (Out.bind q1).good fun p2 q2 v2 O2 H2 R2 m2 r2 => ?_⟩⟩
  refine r2_of (A := AO A O2) (W := W) (O := O2) (σ := σ) (H0 := H0) hf (RepW.of (Rep.move m2 _ _ r1)) (RepW.of r2) R2.there (bad := badS X.K W A H0) ((Out.bind q2).good fun d k v H' s' r => ?_)
  exact k v O2 H' (R2.to s') ((m1.trans m2).trans (Mv.same s')) r
theorem f_lstX (h : PA X es (tXA X.K W ow am)) : PE X (.List es pos) (tXF X.K W ow (lstX am)) :=
  PE.of (pe_lst h) fun σ H Q ⟨A, H0, O, en, R, q⟩ => ⟨A, H0, O, en, R, (Out.bind q).good fun p q1 vs O1 H1 R1 m1 r1 => by
    unfold chk at q1
    split at q1
    · rename_i z
      refine ⟨by rw [← r1.length]; exact z, fun p' hp => q1 p' O1 H1 _ R1 m1 hp (new_same hp) ⟨vs, upd_same, ?_⟩⟩
      refine RepL.move ⟨fun b hb => ?_, fun b o e _ => new_same hp b o e⟩ _ _ r1
      rcases hb with hb | rfl
      · exact .inl hb
      · exact .inr hp
    · exact q1.elim⟩
theorem x_ifExpX (hc : PT X c (tXT X.K W ow tx)) (ha : PE X a (tX X.K W ow mx)) (hb : PE X b (tX X.K W ow my)) : PE X (.IfExp c a b pos) (tX X.K W ow (ifX tx mx my)) :=
  PE.of (pe_ifExp hc ha hb) fun σ H Q ⟨A, H0, O, en, R, q⟩ => ⟨A, H0, O, en, R, (Out.bind q).good fun p q1 O1 H1 R1 m1 => by
    obtain ⟨k, en1⟩ := p
    cases k with
    | true =>
      dsimp only at q1 ⊢
      rw [if_pos rfl] at q1 ⊢
      exact ⟨A, H0, O1, en1, R1, q1.good fun p2 q2 v2 O2 H2 R2 m2 r2 => q2 v2 O2 H2 R2 (m1.trans m2) r2⟩
    | false =>
      dsimp only at q1 ⊢
      rw [if_neg (by decide)] at q1 ⊢
      exact ⟨A, H0, O1, en1, R1, q1.good fun p2 q2 v2 O2 H2 R2 m2 r2 => q2 v2 O2 H2 R2 (m1.trans m2) r2⟩⟩
/-! ### tests -/
theorem t_cmpX {op : CmpOp} {f : D → D → Res D} (ho : OpR X (compareOp op) (r2 X.K f)) (hf : NoEx2 f) (hb2 : ∀ x y d, f x y = .ok d → ∃ k, d = .bl k) (ha : PE X a (tX X.K W ow mx)) (hb : PE X b (tX X.K W ow my)) (hm : behindInMarks op b = false) :
    PT X (.Compare a [op] [b] pos) (tXT X.K W ow (tstX (binX f mx my))) :=
  PT.of (pt_cmpR ho ha hb hm) fun σ H Q ⟨A, H0, O, en, R, q⟩ => two_ofX hf ⟨A, H0, O, en, R, (Out.bind q).imp (fun p l q1 v O1 H1 R1 m1 r1 => by
    obtain ⟨p1, _, l1⟩ := leaf_bind l
    obtain ⟨p2, _, l2⟩ := leaf_bind l1
    obtain ⟨d, l3, l4⟩ := leaf_bind l2
    have e1 := leaf_isP (hf _ _ () ()) l3
    obtain ⟨k, rfl⟩ := hb2 _ _ _ e1
    have e2 : p = (.bl k, p2.2) := l4.symm
    subst e2
    exact ⟨k, bl_of r1, q1 O1 H1 R1 m1⟩) fun _ _ x => x⟩
theorem t_or1X (ha : PT X a (tXT X.K W ow tx)) : PW X (.BoolOp .Or [a] pos) (tXT X.K W ow tx) := pw_or1 ha
theorem t_orX {rest : List Expr} (ha : PT X a (tXT X.K W ow tx)) (hb : PW X (.BoolOp .Or (b :: rest) pos) (tXT X.K W ow ty)) : PW X (.BoolOp .Or (a :: b :: rest) pos) (tXT X.K W ow (orX tx ty)) :=
  PW.of (pw_or ha hb) fun σ H Q ⟨A, H0, O, en, R, q⟩ => ⟨A, H0, O, en, R, (Out.bind q).good fun p q1 O1 H1 R1 m1 => by
    obtain ⟨k, en1⟩ := p
    cases k with
    | false =>
      dsimp only at q1 ⊢
      rw [if_neg (by decide)] at q1 ⊢
      exact ⟨A, H0, O1, en1, R1, q1.good fun p2 q2 O2 H2 R2 m2 => q2 O2 H2 R2 (m1.trans m2)⟩
    | true =>
      dsimp only at q1 ⊢
      rw [if_pos rfl] at q1 ⊢
      exact q1 O1 H1 R1 m1⟩
/-! ### calls of defs that change nothing -/
end
/-! ### statements -/
section
variable {fr : Rm} {X : Cx} [CW X] {W : WX} {ow oN oB : Ow} {a b c e : Expr} {es : List Expr} {m mj : EM} {mx my : XM} {tx : XT} {st : Stmt} {rest body orelse : List Stmt} {u v : SM} {pos : Pos}
theorem s_setX {i : Nat} (h : PS X st (tAsg (tX X.K W ow mx) (gName i))) (hi : ow i = false) : PS X st (tS fr X.K W ow (asgX (gnm i) mx)) :=
  PS.of h fun D σ H ⟨A, H0, O, en, R, q⟩ => ⟨A, H0, O, en, R, (Out.bind q).good fun p q1 v O1 H1 R1 m1 r1 => q1 O1 _ H1 (R1.set hi r1) m1⟩
/-- return of a def that was lent an object -/
theorem s_retL (h : PE X a (tX X.K W ow mx)) (h0 : ow 0 = true) : PS X (.Return (some a) pos) (tS3 .lent X.K W ow oN oB (retL mx)) :=
  PS.of (ps_ret h) fun D σ H ⟨A, H0, O, en, R, q⟩ => ⟨A, H0, O, en, R, (Out.bind q).good fun p q1 v O1 H1 R1 m1 r1 => by
    obtain ⟨l, hl, q2⟩ := var_ok q1
    have q3 : EndOk3 .lent X.K A H0 oN oB O H D (.ret (.tup [p.1, l])) := q2
    exact q3 v H1 R1.same ⟨p.1, l, rfl, fun x hx => R1.back hx r1 hl h0⟩⟩
theorem c_ifX (hc : PT X a (tXT X.K W ow tx)) (hb : PSs X body (tS3 fr X.K W ow oN oB u)) (ho : PSs X orelse (tS3 fr X.K W ow oN oB v)) : PS X (.If a body orelse pos) (tS3 fr X.K W ow oN oB (iteX tx u v)) :=
  PS.of (ps_if hc hb ho) fun D σ H ⟨A, H0, O, en, R, q⟩ => ⟨A, H0, O, en, R, (Out.bind q).good fun p q1 O1 H1 R1 m1 => by
    obtain ⟨k, en1⟩ := p
    cases k with
    | true =>
      dsimp only at q1 ⊢
      rw [if_pos rfl] at q1 ⊢
      exact ⟨A, H0, O1, en1, R1, q1.good fun f q2 => q2.to m1⟩
    | false =>
      dsimp only at q1 ⊢
      rw [if_neg (by decide)] at q1 ⊢
      exact ⟨A, H0, O1, en1, R1, q1.good fun f q2 => q2.to m1⟩⟩
end
end Py
/-! Defs that are lent an object. -/
namespace Py
variable [WI]
open PySem L2
/-- what comes back of a def that was lent the object at a -/
def LentR (K : Frag) (A : AS) (a : Addr) (G : GW) (H H' : Hp) (dr : D) (v : V) : Prop := ∃ r l', dr = .tup [r, l'] ∧ ∃ G', Inn A (fun b => cutH a G H b = none) H' a G' ∧ Rep K (gA A a G') H' r v ∧ OwnG K (gA A a G') G' H' a l'
def spL (K : Frag) (p : Nat) (m : List D → Res D) : Sp := fun vs H Q E => ∃ A G a l ds ws, vs = .ref a :: ws ∧ OwnG K (gA A a G) G H a l ∧ Inn A (fun _ => True) H a G ∧ ¬ A a ∧ RepL K (gA A a G) H ds ws ∧ ds.length + 1 = p ∧ (∀ b, A b → H b ≠ none) ∧
  Out (m (l :: ds)) (fun dr => ∀ v H', Same (cutH a G H) H' → LentR K A a G H H' dr v → Q v H') (fun c fs => ∀ da H' fvs, Same (cutH a G H) H' → H' da = some (.xd fvs) → RepF K A H' fs fvs → E (.ref (ca K c)) (some da) H')
theorem ar_fnL {p n : Nat} {body : SM} : Ar p (fnL p n body) := ⟨fun ds h => if_neg h⟩
section
variable {P : Program} {w : World} [HW w] {K : Frag} {mg : Str → Option Value} {base : Heap} {name qual : Str} {params : Arguments} {body : List Stmt} {scope : Scope} {dvs : List V} {kws : List (Str × V)} {f : Addr} {fd : FuncData} {N ps : List Str} {k : Nat} {ow oN oB : Ow} {m : SM}
/-- the frame at the start of such a def -/
theorem lent_start {E : XK} {vs : List V} {H : Hp} {Q : VK} (hN : ps.length ≤ N.length) (hx : ow.x = none) (h0 : ow 0 = true) (hN0 : oN 0 = true) (hp : ∀ i, 0 < i → i < ps.length → ow i = false) (hn : ∀ i, ps.length ≤ i → True) (h : spL K ps.length (fnL ps.length N.length m) vs H Q E) :
    tS3 .lent K (WD E) ow oN oB m { nx := fun _ H' => Q .non H', rt := Q } (L2.start N vs) H := by
  obtain ⟨A, G, a, l, ds, ws, rfl, g, inn, na, r, hl, ha, q⟩ := h
  have hlv := r.length
  have hps : 0 < ps.length := by omega
  refine ⟨A, ⟨cutH a G H, some a⟩, fun j => if j = 0 then some a else if j = 1 then G false else if j = 2 then G true else none, (some l :: ds.map some) ++ List.replicate (N.length - ps.length) none, ?_, ?_⟩
  · have hO : ∀ j b, (if j = 0 then some a else if j = 1 then G false else if j = 2 then G true else none) = some b → (j = 0 ∧ b = a) ∨ ∃ t : Bool, j = (if t then 2 else 1) ∧ G t = some b := fun j b h => by
      split at h
      · rename_i z
        exact .inl ⟨z, (Option.some.inj h).symm⟩
      · split at h
        · rename_i z
          exact .inr ⟨false, z, h⟩
        · split at h
          · rename_i z
            exact .inr ⟨true, z, h⟩
          · cases h
    have sub : ∀ b, AO A (fun j => if j = 0 then some a else if j = 1 then G false else if j = 2 then G true else none) b → gA A a G b := fun b hb => by
      rcases hb with hb | ⟨j, hb⟩
      · exact .inl (.inl hb)
      · rcases hO j b hb with ⟨_, z⟩ | ⟨t, _, z⟩
        · exact .inl (.inr z)
        · exact .inr ⟨t, z⟩
    have hgh : gh (fun j => if j = 0 then some a else if j = 1 then G false else if j = 2 then G true else none) 0 = G := by
      funext t
      cases t <;> rfl
    refine ⟨?_, ha, cut_same, fun i d g1 g2 => ?_, fun i d g1 g2 => ?_, fun j b hb => ?_, fun j k b hj hk => ?_, fun b hb => ?_, XFact.none hx⟩
    · unfold L2.start
      simp only [List.length_append, List.length_map, List.length_replicate, List.length_cons]
      omega
    · cases i with
      | zero =>
        rw [h0] at g2
        cases g2
      | succ i =>
        by_cases hi : i < ds.length
        · rw [List.getElem?_append_left (by simpa using hi), List.getElem?_cons_succ, List.getElem?_map, List.getElem?_eq_getElem hi] at g1
          simp only [Option.map_some, Option.some.injEq] at g1
          subst g1
          obtain ⟨v, hv, rv⟩ := r.get (List.getElem?_eq_getElem hi)
          exact ⟨v, start_get (by simpa using hv), Rep.move (Mv.less sub) _ _ rv⟩
        · rw [List.getElem?_append_right (by simpa using hi)] at g1
          rw [List.getElem?_replicate] at g1
          split at g1 <;> cases g1
    · cases i with
      | zero =>
        simp only [List.cons_append, List.getElem?_cons_zero, Option.some.injEq] at g1
        subst g1
        refine ⟨a, rfl, start_get rfl, ?_⟩
        rw [hgh]
        exact g.move (Mv.less sub) rfl fun t b z => ⟨z, rfl⟩
      | succ i =>
        by_cases hi : i < ds.length
        · rw [hp (i + 1) (by omega) (by omega)] at g2
          cases g2
        · rw [List.getElem?_append_right (by simpa using hi)] at g1
          rw [List.getElem?_replicate] at g1
          split at g1 <;> cases g1
    · rcases hO j b hb with ⟨_, rfl⟩ | ⟨t, _, z⟩
      · obtain ⟨u, hu, _⟩ := g.obj
        exact ⟨cut_at, by rw [hu]; exact (fun z => nomatch z), na⟩
      · obtain ⟨_, z2, z3, z4⟩ := inn.new t b z
        exact ⟨cut_in z, z2, z3⟩
    · rcases hO j b hj with ⟨z1, z2⟩ | ⟨t, z1, z2⟩ <;> rcases hO k b hk with ⟨y1, y2⟩ | ⟨t', y1, y2⟩
      · omega
      · exact absurd z2 (inn.new t' b y2).2.2.2
      · exact absurd y2 (inn.new t b z2).2.2.2
      · rw [z1, y1, inn.inj t t' b z2 y2]
    · cases hb
      rfl
  · unfold fnL at q
    rw [if_pos (show (l :: ds).length = ps.length from hl)] at q
    refine (Out.bind q).imp (fun fl _ q => ?_) fun c fs q => ?_
    · cases fl with
      | next e' =>
        refine fun O' σ' H' R' _ => ?_
        unfold doneL at q
        dsimp only at q
        split at q
        · rename_i l' hl'
          exact q .non H' R'.same ⟨.non, l', rfl, R'.back rfl (d := .non) (v := .non) (by simp [Rep]) hl' hN0⟩
        · exact q.elim
      | ret d => exact fun v H' s' ⟨r', l', e1, z⟩ => q v H' s' ⟨r', l', e1, z a rfl⟩
      | brk e' => exact q.elim
      | cnt e' => exact q.elim
    · exact fun σ' da H' fvs s' q' r' => q da H' fvs s' q' r'
theorem fn_okL (F : FunD K name qual params body scope dvs kws f fd) (S : FnScope N ps scope) (hx : ow.x = none) (h0 : ow 0 = true) (hN0 : oN 0 = true) (hp : ∀ i, 0 < i → i < ps.length → ow i = false)
    (hb : ∀ (cdv : Value) (A : Around) (outer : List PySem.Env) (s : Shared) (H : Hp) (E : XK), Ctx (cxOf (L2N.CX P w) P w K mg base N qual scope f cdv A outer s H E) (WD E) k →
      PSs (cxOf (L2N.CX P w) P w K mg base N qual scope f cdv A outer s H E) body (tS3 .lent K (WD E) ow oN oB m)) :
    FnOk P w K mg base (L2N.CX P w) (k + 1) f fd ps (spL K ps.length (fnL ps.length N.length m)) := by
  refine F.ok S (fun vs H Q E ⟨A, G, a, l, ds, ws, e, _, _, _, r, h, _⟩ => by rw [e, List.length_cons, ← r.length]; exact h) (fun cdv A outer s H vs Q E hr h => ?_)
  exact ⟨tS3 .lent K (WD E) ow oN oB m, hb cdv A outer s H E ⟨rfl, L2N.takes_of rfl rfl rfl rfl, passes_of rfl, hr, S.nd⟩, lent_start (pre_le S.pre) hx h0 hN0 hp (fun _ _ => trivial) h⟩
end
/-- the name x calls a def that is lent its first argument -/
def CallL (P : Program) (w : World) (K : Frag) (mg : Str → Option Value) (base : Heap) (k : Nat) (x : Str) (d : He.DefD) (ps : List Str) (n : Nat) (fm : List D → Res D) : Prop := ∃ f fd, mg x = some (.ref f) ∧ PySem.W.keepIn K (.ref f) = true ∧ Binds K fd ps [] ∧ FnOk P w K mg base (L2N.CX P w) k f fd ps (spL K n fm) ∧ Ar n fm
structure MethL (P : Program) (w : World) (K : Frag) (mg : Str → Option Value) (base : Heap) (k : Nat) (cls mn : String) (n : Nat) (fm : List D → Res D) : Prop where
  ex : ∃ f fd ps, Cls K (ca K cls) ∧ Meth K (ca K cls) (Str.ofString mn) f ∧ Binds K fd ps [] ∧ FnOk P w K mg base (L2N.CX P w) k f fd ps (spL K n fm) ∧ Ar n fm
section
variable {P : Program} {w : World} [HW w] {K : Frag} {mg : Str → Option Value} {base : Heap} {k : Nat} {ow oN oB : Ow} {m : SM} {f : Addr} {N ps : List Str} {p n : Nat} {cls mn : String}
theorem def_okL {d : He.DefD} (F : ∃ fd, FunD K d.name d.qual d.params d.body d.scope [] [] f fd) (g : mg d.name = some (.ref f)) (S : FnScope N ps d.scope) (hpl : ps.length = p) (hnl : N.length = n) (h0 : ow 0 = true) (hN0 : oN 0 = true) (hp : ∀ i, i < p → 0 < i → ow i = false)
    (hbind : ∀ (kV doc pm : Value) (an : Option Addr) (cdv ct : Value) (us : List Value), us.length = ps.length → bindArgs (PySem.W.fnOf d.name d.qual d.params d.body d.scope .none kV doc pm an cdv ct) ⟨us, []⟩ = pure (ps.zip us))
    (hb : ∀ (cdv : Value) (A : Around) (outer : List PySem.Env) (s : Shared) (H : Hp) (E : XK), Ctx (cxOf (L2N.CX P w) P w K mg base N d.qual d.scope f cdv A outer s H E) (WD E) k →
      PSs (cxOf (L2N.CX P w) P w K mg base N d.qual d.scope f cdv A outer s H E) d.body (tS3 .lent K (WD E) ow oN oB m)) (hx : ow.x = none := by rfl) : CallL P w K mg base (k + 1) d.name d ps p (fnL p n m) := by
  obtain ⟨fd, F⟩ := F
  subst hpl hnl
  exact ⟨f, fd, g, F.kp, FunD.bindsN F hbind, fn_okL F S hx h0 hN0 (fun i a b => hp i b a) hb, ar_fnL⟩
theorem meth_defL {d : He.DefD} (F : ∃ fd, FunD K d.name d.qual d.params d.body d.scope [] [] f fd) (hc : Cls K (ca K cls)) (hme : Meth K (ca K cls) (Str.ofString mn) f) (S : FnScope N ps d.scope) (hpl : ps.length = p) (hnl : N.length = n) (h0 : ow 0 = true) (hN0 : oN 0 = true) (hp : ∀ i, i < p → 0 < i → ow i = false)
    (hbind : ∀ (kV doc pm : Value) (an : Option Addr) (cdv ct : Value) (us : List Value), us.length = ps.length → bindArgs (PySem.W.fnOf d.name d.qual d.params d.body d.scope .none kV doc pm an cdv ct) ⟨us, []⟩ = pure (ps.zip us))
    (hb : ∀ (cdv : Value) (A : Around) (outer : List PySem.Env) (s : Shared) (H : Hp) (E : XK), Ctx (cxOf (L2N.CX P w) P w K mg base N d.qual d.scope f cdv A outer s H E) (WD E) k →
      PSs (cxOf (L2N.CX P w) P w K mg base N d.qual d.scope f cdv A outer s H E) d.body (tS3 .lent K (WD E) ow oN oB m)) (hx : ow.x = none := by rfl) : MethL P w K mg base (k + 1) cls mn p (fnL p n m) := by
  obtain ⟨fd, F⟩ := F
  subst hpl hnl
  exact ⟨f, fd, ps, hc, hme, FunD.bindsN F hbind, fn_okL F S hx h0 hN0 (fun i a b => hp i b a) hb, ar_fnL⟩
end
section
variable {X : Cx} [CW X] {W : WX} {A : AS} {H0 : Base} {ow : Ow} {O : OW} {σ : L2.St} {H : Hp} {o e e0 : Expr} {es : List Expr} {am : XA} {pos apos p : Pos} {k j n i : Nat} {x : Str} {fm : List D → Res D} {d : He.DefD} {ps : List Str} {cls mn : String}
/-- slot i's object is lent to fm -/
theorem lend_of {K : Frag} {en : Env} {a : Addr} {od : D} {ds : List D} {ws : List V} {Q : VK} {E : XK} (hn : Ar n fm) (R : ER K A H0 ow O σ H en) (hi : ow i = true) (ho : en[i]? = some (some od)) (p1 : O (3 * i) = some a) (r : RepL K (AO A O) H ds ws)
    (q : Out (fm (od :: ds)) (fun dr => Out (backX i en dr) (fun p => ∀ v O' H', ER K A H0 ow O' σ H' p.2 → Mv (AO A O) H (AO A O') H' → Rep K (AO A O') H' p.1 v → Q v H') (badS K W A H0)) (badS K W A H0)) (hE : ∀ cls d H, W cls d σ H → E cls d H) :
    spL K n fm (.ref a :: ws) H Q E := by
  obtain ⟨a', p1', p2', g⟩ := R.owns i od ho hi
  rw [p1] at p1'
  cases p1'
  have hG : ∀ t b, useG od (gh O i) t = some b → gh O i t = some b := fun t b h => (useG_some h).2
  have sub := ac_sub (A := A) (i := i) (O := O) (G := useG od (gh O i)) p1 hG
  have hn1 := hn.len q
  have hsame : Same H0.hp (cutH a (useG od (gh O i)) H) := fun b u e1 => by
    have hne : H0.hp b ≠ none := by rw [e1]; exact fun z => nomatch z
    rw [cut_out (fun w => ?_) fun t z => hne (R.fresh _ b (hG t b z)).1]
    · exact R.same b u e1
    · subst w
      exact hne (R.fresh _ b p1).1
  refine ⟨Ac A i O, useG od (gh O i), a, od, ds, ws, rfl, g.use.move (Mv.less sub) rfl fun t b z => ⟨z, rfl⟩, R.innG p1 hG, R.lend p1, RepL.move (Mv.less sub) _ _ r, by simpa using hn1, fun b hb => R.there b (sub b (.inl (.inl hb))), q.imp (fun dr _ z v H' s ⟨r', l', e1, G', n', rr, g'⟩ => ?_) fun c fs z da H' fvs s hx rf => hE _ _ _ (z σ da H' fvs (hsame.trans s) hx (RepF.move (Mv.less fun b => .inl) _ _ rf))⟩
  subst e1
  obtain ⟨R3, mv3, sub3⟩ := R.lent hi ho p1 s n' g'
  exact z v _ H' R3 mv3 (Rep.move (Mv.less sub3) _ _ rr)
theorem x_lend (T : Ctx X W j) (C : CallL X.prog X.w X.K X.mg X.base k x d ps n fm) (hk : k ≤ j) (hg : Gl X x) (hv : PE X e0 (tVar i)) (hi : ow i = true) (ha : PA X es (tXA X.K W ow am)) (hdb : (x == ("__debug__" : Str)) = false := by decide)
    (he : starEach (e0 :: es) X.env = (false, eval e0 X.env) :: starEach es X.env := by rfl) (hpl : (backTo pos (starEach es X.env)).any (·.1) = false := by rfl) : PE X (.Call (.Name x p) (e0 :: es) [] pos) (tX X.K W ow (lendX i fm am)) := by
  obtain ⟨f, fd, h1, h2, h3, h4, hn⟩ := C
  refine PE.of (pe_callSD (E := WE W) h4 (T.hr.mono hk) hg h1 h2 h3 .nil (fun σ => L2N.passAt T.tk σ) (pa_cons hv ha he) hdb he hpl) fun σ H Q ⟨A, H0, O, en, R, q⟩ => ?_
  obtain ⟨o0, ho0, q1⟩ := var_ok q
  obtain ⟨a, p1, p2, _⟩ := R.owns i o0 ho0 hi
  refine ⟨.ref a, p2, A, H0, O, en, R, (Out.bind q1).good fun p q2 ws O1 H1 R1 m1 r1 => ?_⟩
  obtain ⟨o, ho, q3⟩ := var_ok q2
  obtain ⟨a', p1', p2', _⟩ := R1.owns i o ho hi
  have ea : a' = a := by
    rw [p2] at p2'
    cases p2'
    rfl
  subst ea
  rw [show (V.ref a' :: ws) ++ [] = V.ref a' :: ws from List.append_nil _]
  exact lend_of (W := W) hn R1 hi ho p1' r1 ((Out.bind q3).good fun dr z => z.good fun p z v O' H' R' m' r' => z v O' H' R' (m1.trans m') r') fun _ _ _ z => z
theorem RepI.noLook {K : Frag} {A : AS} {G : GW} {H : Hp} {c f : String} : ∀ {fs : List (String × D)} {vs : List (Str × V)}, RepI K A G H c fs vs → fs.lookup f = none → vs.lookup (Str.ofString f) = none
  | [], vs, h, _ => by
    cases h
    rfl
  | (n, d0) :: fs, vs, h, z => by
    obtain ⟨v, r, rfl, h1, h2⟩ := h
    by_cases e : f = n
    · subst e
      simp at z
    · have e2 : (Str.ofString f == Str.ofString n) = false := beq_eq_false_iff_ne.mpr fun q => e (ofS_inj q)
      have e3 : (f == n) = false := beq_eq_false_iff_ne.mpr e
      simp only [List.lookup_cons, e2, e3] at z ⊢
      exact RepI.noLook h2 z
theorem lendM_of {C : Addr} {m : Str} (hC : C = ca X.K cls) (hm : m = Str.ofString mn) (hn : Ar n fm) (hi : ow i = true) (hW : ∀ c d σ σ' H, W c d σ H → W c d σ' H) {σ : L2.St} {H : Hp} {Q : VK}
    (h : tX X.K W ow (lendM cls mn i fm am) σ H Q) : tMeth C m (spL X.K n fm) [] (fun c d H => ∀ σ, W c d σ H) (tVar i) (tXA X.K W ow am) σ H Q := by
  subst hC hm
  obtain ⟨A, H0, O, en, R, q⟩ := h
  obtain ⟨o0, ho0, q1⟩ := var_ok q
  obtain ⟨a, p1, p2, g⟩ := R.owns i o0 ho0 hi
  cases o0 with
  | ins c' fs =>
    simp only at q1
    split at q1
    · rename_i hc
      obtain ⟨rfl, hl⟩ := hc
      obtain ⟨dx, fvs, e1, r⟩ := g
      obtain ⟨_, _, q1'⟩ := var_ok q1
      refine ⟨.ref a, p2, a, dx, fvs, rfl, e1, r.noLook (Option.isNone_iff_eq_none.mp hl), A, H0, O, en, R, (Out.bind q1').good fun p q2 ws O1 H1 R1 m1 r1 => ?_⟩
      obtain ⟨o, ho, q3⟩ := var_ok q2
      obtain ⟨a', p1', p2', _⟩ := R1.owns i o ho hi
      have ea : a' = a := by
        rw [p2] at p2'
        cases p2'
        rfl
      subst ea
      rw [show ws ++ [] = ws from List.append_nil _]
      exact lend_of (W := W) hn R1 hi ho p1' r1 ((Out.bind q3).good fun dr z => z.good fun p z v O' H' R' m' r' => z v O' H' R' (m1.trans m') r') fun _ _ _ z σ' => hW _ _ _ σ' _ z
    · exact q1.elim
  | _ => exact q1.elim
theorem x_lendM {pl : Sem Bool} {m : Str} (hm : m = Str.ofString mn) (T : Ctx X W j) (C : MethL X.prog X.w X.K X.mg X.base k cls mn n fm) (hk : k ≤ j) (hW : ∀ c d σ σ' H, W c d σ H → W c d σ' H) (ho : PE X o (tVar i)) (hi : ow i = true) (ha : PA X (e :: es) (tXA X.K W ow am))
    (hst : starEach (e :: es) X.env = (false, eval e X.env) :: starEach es X.env := by rfl) (hpl : (backTo pos (starEach es X.env)).any (·.1) = false := by rfl)
    (ht : eval (.Call (.Attribute o m apos) (e :: es) [] pos) X.env = (do
      let ov ← eval o X.env
      standAt apos.atName
      let (f, first) ← holding [ov] (getMethod ov m pl)
      callWith pos f first (backTo pos (starEach (e :: es) X.env)) (backToKw pos (keywordEach [] X.env))) := by rfl) :
    PE X (.Call (.Attribute o m apos) (e :: es) [] pos) (tX X.K W ow (lendM cls mn i fm am)) := by
  obtain ⟨f, fd, ps, h1, h2, h3, h4, h5⟩ := C.ex
  subst hm
  exact PE.of (pe_meth (E := fun c d H => ∀ σ, W c d σ H) ho h1 h2 h4 (T.hr.mono hk) h3 .nil (L2N.passes_call T.tk fun c d σ H h => h σ) ha hst hpl ht) fun σ H Q h => lendM_of rfl rfl h5 hi hW h
theorem x_lendM0 {pl : Sem Bool} {m : Str} (hm : m = Str.ofString mn) (T : Ctx X W j) (C : MethL X.prog X.w X.K X.mg X.base k cls mn n fm) (hk : k ≤ j) (hW : ∀ c d σ σ' H, W c d σ H → W c d σ' H) (ho : PE X o (tVar i)) (hi : ow i = true)
    (ht : eval (.Call (.Attribute o m apos) [] [] pos) X.env = (do
      let ov ← eval o X.env
      standAt apos.atName
      let (f, first) ← holding [ov] (getMethod ov m pl)
      callWith pos f first (backTo pos (starEach [] X.env)) (backToKw pos (keywordEach [] X.env))) := by rfl) :
    PE X (.Call (.Attribute o m apos) [] [] pos) (tX X.K W ow (lendM cls mn i fm xaN)) := by
  obtain ⟨f, fd, ps, h1, h2, h3, h4, h5⟩ := C.ex
  subst hm
  refine PE.of (pe_meth0 (E := fun c d H => ∀ σ, W c d σ H) ho h1 h2 h4 (T.hr.mono hk) h3 .nil (L2N.passes_call T.tk fun c d σ H h => h σ) ht) fun σ H Q h => ?_
  obtain ⟨v, e1, a, dx, fs, e2, e3, e4, A, H0, O, en, R, q⟩ := lendM_of (C := ca X.K cls) rfl rfl h5 hi hW h
  exact ⟨v, e1, a, dx, fs, e2, e3, e4, q [] O H R Mv.refl (by simp [RepL])⟩
end
end Py
/-! Inner objects: appended to, stored into, made; own instances made. -/
namespace Py
variable [WI]
open PySem L2
theorem upd_none' {H : Hp} {a b : Addr} {o : HO} (e : upd H a o b = none) : H b = none := by
  unfold upd at e
  split at e
  · cases e
  · exact e
theorem fld_ok {α : Type} {c f : String} {o : D} {k : List (String × D) × D → Res α} {good : α → Prop} {bad : String → List (String × D) → Prop} (h : Out (fldD c f o >>= k) good bad) : ∃ fs d, o = .ins c fs ∧ (fs.map (·.1)).Nodup ∧ fs.lookup f = some d ∧ Out (k (fs, d)) good bad := by
  cases o with
  | ins c' fs =>
    by_cases z : c' = c ∧ (fs.map (·.1)).Nodup
    · cases hd : fs.lookup f with
      | none =>
        simp only [fldD, if_pos z, hd] at h
        exact h.elim
      | some d =>
        simp only [fldD, if_pos z, hd] at h
        obtain ⟨rfl, nd⟩ := z
        exact ⟨fs, d, rfl, nd, hd, h⟩
    · simp only [fldD, if_neg z] at h
      exact h.elim
  | _ => exact h.elim
section
variable {fr : Rm} {X : Cx} [CW X] {W : WX} {A : AS} {H0 : Base} {ow oN oB : Ow} {O : OW} {σ : L2.St} {H H' : Hp} {en : Env} {o e : Expr} {es : List Expr} {m mj : EM} {mx : XM} {am : AM} {st : Stmt} {apos cpos fpos pos : Pos} {i : Nat} {c f : String}
/-- the inner object of slot i's field f -/
theorem ER.at_ {K : Frag} (R : ER K A H0 ow O σ H en) (hi : ow i = true) {fs : List (String × D)} {d : D} (he : en[i]? = some (some (.ins c fs))) (hl : fs.lookup f = some d) (hf : inn c f = true) :
    ∃ a dx fvs b, σ[i]? = some (some (.ref a)) ∧ H a = some (.ins (ca K c) dx fvs) ∧ fvs.lookup (Str.ofString f) = some (.ref b) ∧ gh O i (ixF f) = some b ∧ OwnAt K (AO A O) H b d ∧ fs.length = fvs.length := by
  obtain ⟨a, p1, p2, dx, fvs, p3, p4⟩ := R.owns i _ he hi
  obtain ⟨v, q1, q2⟩ := p4.look hl
  rw [hf] at q2
  obtain ⟨b, g, rfl, o⟩ := q2
  exact ⟨a, dx, fvs, b, p2, p3, q1, g, o, p4.length⟩
/-- x.f.append(e) -/
theorem s_appF (F : Cls X.K (ca X.K c) ∧ NoAttr X.K (ca X.K c) (Str.ofString f)) (h : PS X st (tDrop (tBM X.K "list" rAppend (tFld X.K (tVar i) (Str.ofString f)) (tCons (tE X.K W ow m) tNil)))) (hi : ow i = true) (hf : inn c f = true) : PS X st (tS fr X.K W ow (appF i c f m)) :=
  PS.of h fun D σ H ⟨A, H0, O, en, R, q⟩ => by
    obtain ⟨l, hl, q1⟩ := var_ok q
    obtain ⟨fs, d, rfl, nd, hd, q2⟩ := fld_ok q1
    obtain ⟨a, dx, fvs, b, p2, p3, p4, p5, p6, _⟩ := R.at_ hi hl hd hf
    cases d with
    | lst ds =>
      obtain ⟨vs, e1, r1⟩ := p6
      refine ⟨.ref a, p2, a, _, dx, fvs, .ref b, rfl, p3, F.1, F.2, p4, sqL e1, A, H0, O, en, R, ((Out.bind q2).se R).good fun y q3 v H1 s1 r2 => ?_⟩
      split at q3
      · rename_i hz
        refine ⟨b, vs, v, rfl, rfl, s1 _ _ e1, by rw [← r1.length]; exact hz, ?_⟩
        have R1 := R.to s1
        have mv : Mv (AO A O) H1 (AO A O) (upd H1 b (.lst (vs ++ [v]))) := ⟨fun c hc => .inl hc, fun c u e3 hc => by
          rw [upd_ne]
          · exact e3
          · intro z
            subst z
            rcases hc with hc | hc
            · exact hc (.inr ⟨_, p5⟩)
            · rw [s1 _ _ e1] at e3
              cases e3
              exact hc⟩
        obtain ⟨R2, mv2⟩ := R1.writeI (ob := .lst (vs ++ [v])) (d1 := .lst (ds ++ [y])) hi hl hf nd (by rw [hd]; rfl) p5 ⟨_, upd_same, RepL.move mv _ _ ((RepL.move (Mv.same s1) _ _ r1).append (RepL.one r2))⟩ ⟨_, s1 _ _ e1, fun z => z, fun _ z => nomatch z⟩
        exact q3 O σ _ R2 ((Mv.same s1).trans mv2)
      · exact q3.elim
    | _ => exact q2.elim
/-- x.f[j] = e, a dict -/
theorem s_setFD (F : Cls X.K (ca X.K c) ∧ NoAttr X.K (ca X.K c) (Str.ofString f)) (h : PS X st (tAsg (tE X.K W ow m) (gSub (tFld X.K (tVar i) (Str.ofString f)) (tE X.K W ow mj) (rSetX X.K)))) (hi : ow i = true) (hf : inn c f = true) : PS X st (tS fr X.K W ow (setFD i c f mj m)) :=
  PS.of h fun D σ H ⟨A, H0, O, en, R, q⟩ => by
    obtain ⟨l, hl, q1⟩ := var_ok q
    obtain ⟨fs, d, rfl, nd, hd, q2⟩ := fld_ok q1
    cases d with
    | dic t kvs =>
      refine ⟨A, H0, O, en, R, ((Out.bind q2).se R).good fun y q3 v H1 s1 r2 => ?_⟩
      obtain ⟨a, dx, fvs, b, p2, p3, p4, p5, p6, _⟩ := (R.to s1).at_ hi hl hd hf
      refine ⟨.ref a, p2, a, _, dx, fvs, .ref b, rfl, p3, F.1, F.2, p4, A, H0, O, en, R.to s1, ((Out.bind q3).se (R.to s1)).good fun k q4 w H2 s2 r3 => ?_⟩
      split at q4
      · rename_i hk
        rw [Bool.and_eq_true, decide_eq_true_eq] at hk
        have R2 := (R.to s1).to s2
        obtain ⟨_, _, _, b', _, _, _, p5', p6', _⟩ := R2.at_ hi hl hd hf
        rw [p5] at p5'
        cases p5'
        refine .inr ⟨AO A O, t, kvs, k, y, b, rfl, .inr ⟨_, p5⟩, p6', r3, Rep.move (Mv.same s2) _ _ r2, hk.1, hk.2, fun ob g => ?_⟩
        obtain ⟨R3, mv⟩ := R2.writeI (ob := ob) (d1 := .dic t (putD k y kvs)) hi hl hf nd (by rw [hd]; rfl) p5 g (OwnAt.obj (d := .dic t kvs) p6')
        exact q4 O σ _ R3 (((Mv.same s1).trans (Mv.same s2)).trans mv)
      · exact q4.elim
    | _ => exact q2.elim
/-! ### an inner object is made -/
theorem look_none {f : String} : ∀ {fs : List (String × D)}, fs.lookup f = none → ∀ n d, (n, d) ∈ fs → n ≠ f
  | (n0, d0) :: fs, h, n, d, hm => by
    by_cases e : f = n0
    · subst e
      simp at h
    · have e3 : (f == n0) = false := beq_eq_false_iff_ne.mpr e
      simp only [List.lookup_cons, e3] at h
      rcases List.mem_cons.mp hm with z | z
      · cases z
        exact fun w => e w.symm
      · exact look_none h n d z
theorem usd_new {fs : List (String × D)} (hl : fs.lookup f = none) (hf : inn c f = true) : usd (.ins c fs) (ixF f) = false := by
  cases h : usd (.ins c fs) (ixF f) with
  | false => rfl
  | true =>
    obtain ⟨⟨n, d⟩, hm, z⟩ := List.any_eq_true.mp (show (fs.any fun q => inn c q.1 && ixF q.1 == ixF f) = true from h)
    rw [Bool.and_eq_true] at z
    exact absurd (inn_ix z.1 hf (by simpa using z.2)) (look_none hl n d hm)
/-- slot i's object gets a further inner one -/
theorem ER.adopt {K : Frag} (R : ER K A H0 ow O σ H en) (s : Same H H') (hi : ow i = true) {d0 d : D} {b : Addr} {t : Bool} (he : en[i]? = some (some d0)) (hu : usd d0 t = false) (hn : H b = none) (h : OwnAt K (fun c => AO A O c ∨ c = b) H' b d) :
    ∃ O', ER K A H0 ow O' σ H' en ∧ Mv (AO A O) H (AO A O') H' ∧ OwnAt K (AO A O') H' b d ∧ gh O' i t = some b ∧ O' (3 * i) = O (3 * i) ∧ ∀ u, u ≠ t → gh O' i u = gh O i u := by
  let j0 := 3 * i + if t then 2 else 1
  let O' : OW := fun j => if j = j0 then some b else O j
  have hj0 : O' j0 = some b := if_pos rfl
  have hne : ∀ j, j ≠ j0 → O' j = O j := fun j hj => if_neg hj
  have sub : ∀ c, AO A O' c → AO A O c ∨ c = b := fun c hc => by
    rcases hc with hc | ⟨j, hc⟩
    · exact .inl (.inl hc)
    · by_cases hj : j = j0
      · rw [hj, hj0] at hc
        exact .inr (Option.some.inj hc).symm
      · rw [hne j hj] at hc
        exact .inl (.inr ⟨j, hc⟩)
  have mv : Mv (AO A O) H (AO A O') H' := ⟨fun c hc => (sub c hc).elim .inl fun z => by rw [z]; exact .inr hn, fun c u e1 _ => s c u e1⟩
  obtain ⟨ub, hub, _⟩ := h.obj
  have old : ∀ j c, O j = some c → c ≠ b := fun j c hc w => by
    subst w
    exact (R.fresh j c hc).2.1 hn
  have hgi : gh O' i t = some b := hj0
  have hother : ∀ u, u ≠ t → gh O' i u = gh O i u := fun u hu => hne _ (by cases u <;> cases t <;> simp [j0] at hu ⊢)
  have h3 : ∀ k, O' (3 * k) = O (3 * k) := fun k => hne _ (by cases t <;> simp [j0] <;> omega)
  refine ⟨O', ⟨R.len, fun c hc => ne_none s (R.a0 c hc), R.same.trans s, fun k d1 h1 h2 => ?_, fun k d1 h1 h2 => ?_, fun k c hc => ?_, fun k l c hk hl => ?_, fun c hc => (h3 0).trans (R.pin c hc), fun q hq => ?_⟩, mv, h.move (Mv.less fun c hc => sub c hc) rfl, hgi, h3 i, hother⟩
  · obtain ⟨v, q, r⟩ := R.vals k d1 h1 h2
    exact ⟨v, q, Rep.move mv _ _ r⟩
  · obtain ⟨a, p1, p2, p3⟩ := R.owns k d1 h1 h2
    refine ⟨a, (h3 k).trans p1, p2, ?_⟩
    by_cases hk : k = i
    · subst hk
      rw [he] at h1
      cases h1
      refine p3.use.move mv (R.kept s p1) fun u c z => ?_
      obtain ⟨z1, z2⟩ := useG_some z
      exact ⟨(hother u fun w => by rw [w, hu] at z1; cases z1).trans z2, R.kept s z2⟩
    · refine p3.move mv (R.kept s p1) fun u c z => ⟨(hne _ ?_).trans z, R.kept s z⟩
      intro w
      have w2 := third k u
      rw [w, third] at w2
      exact hk w2.symm
  · by_cases hj : k = j0
    · rw [hj, hj0] at hc
      cases hc
      refine ⟨?_, by rw [hub]; exact (fun z => nomatch z), fun z => R.a0 b z hn⟩
      cases z : H0.hp b with
      | none => rfl
      | some u => rw [R.same b u z] at hn; cases hn
    · rw [hne k hj] at hc
      exact ⟨(R.fresh k c hc).1, ne_none s (R.fresh k c hc).2.1, (R.fresh k c hc).2.2⟩
  · by_cases h1 : k = j0
    · by_cases h2 : l = j0
      · rw [h1, h2]
      · rw [h1, hj0] at hk
        rw [hne l h2] at hl
        exact absurd (Option.some.inj hk).symm (old l c hl)
    · by_cases h2 : l = j0
      · rw [h2, hj0] at hl
        rw [hne k h1] at hk
        exact absurd (Option.some.inj hl).symm (old k c hk)
      · rw [hne k h1] at hk
        rw [hne l h2] at hl
        exact R.inj k l c hk hl
  · obtain ⟨z1, z2, z3, fvs, z4, z5⟩ := R.exq q hq
    exact ⟨z1, z2, z3, fvs, s _ _ z4, RepF.move mv _ _ z5⟩
/-- self.f = a new list or dict -/
theorem s_setFN {cs : List String} (F : ∀ c ∈ cs, Cls X.K (ca X.K c) ∧ NoAttr X.K (ca X.K c) (Str.ofString f)) (h : PS X st (sFld X.K (tVar i) (tF X.K W ow m) (Str.ofString f))) (hi : ow i = true) (hn : (cs.all fun c => inn c f) = true := by decide) : PS X st (tS fr X.K W ow (setFN i cs f m)) :=
  PS.of h fun D σ H ⟨A, H0, O, en, R, q⟩ => by
    obtain ⟨l, hl, q1⟩ := var_ok q
    cases l with
    | ins c fs =>
      simp only at q1
      split at q1
      · rename_i hz
        obtain ⟨hz1, hz2, hz3⟩ := hz
        have hlk := Option.isNone_iff_eq_none.mp hz3
        have hf : inn c f = true := List.all_eq_true.mp hn c (by simpa using hz1)
        obtain ⟨f1, f2⟩ := F c (by simpa using hz1)
        refine ⟨A, H0, O, en, R, ((Out.bind q1).se R).good fun d q2 b H1 n s1 r2 => ?_⟩
        obtain ⟨O', R1, mv1, o1, g1, g2, g3⟩ := R.adopt (t := ixF f) s1 hi hl (usd_new hlk hf) n r2
        obtain ⟨a, p1, p2, dx, fvs, e1, r1⟩ := R1.owns i _ hl hi
        refine ⟨.ref a, p2, a, _, dx, fvs, rfl, e1, f1, f2, by rw [← r1.length]; exact hz2, ?_⟩
        have mv := own_mv R1 p1 (o := .ins (ca X.K c) dx (L2.putF (Str.ofString f) (.ref b) fvs)) e1 fun z => z
        have R2 := R1.write (o := .ins (ca X.K c) dx (L2.putF (Str.ofString f) (.ref b) fvs)) (d' := .ins c (putF f d fs)) hi hl p1 ⟨dx, _, upd_same, (RepI.put (by rw [hf]; exact ⟨b, g1, rfl, o1⟩) r1).move mv fun t b z => ⟨z, upd_ne fun w => by
          subst w
          have := R1.inj _ _ b p1 z
          cases t <;> simp at this⟩⟩
        exact q2 O' σ _ R2 (mv1.trans mv)
      · exact q1.elim
    | _ => exact q1.elim
/-! ### own instances are made -/
/-- a new own instance -/
def tN (K : Frag) (W : WX) (ow : Ow) (m : EM) : TE := fun σ H Q => ∃ A H0 O e, ER K A H0 ow O σ H e ∧
  Out (m e) (fun d => ∀ a G H', H a = none → Inn (AO A O) (fun b => H b = none) H' a G → Same H H' → OwnG K (gA (AO A O) a G) G H' a d → Q (.ref a) H') (badE K W A O σ H)
end
/-- an __init__ that makes m of the arguments behind self, with inner objects -/
def spIN (K : Frag) (p : Nat) (cls : String) (m : List D → Res D) : Sp := fun vs H Q E => ∃ A x dx H1 ds ws, vs = .ref x :: ws ∧ H = upd (upd H1 dx (.own x)) x (.ins (ca K cls) dx []) ∧ H1 x = none ∧ H1 dx = none ∧ dx ≠ x ∧ RepL K A H1 ds ws ∧ ds.length + 1 = p ∧ (∀ a, A a → H1 a ≠ none) ∧
  Out (m ds) (fun d => ∀ H' G, Same H1 H' → Inn A (fun b => H1 b = none) H' x G → OwnG K (gA A x G) G H' x d → Q .non H') (fun c fs => ∀ da H' fvs, Same H1 H' → H' da = some (.xd fvs) → RepF K A H' fs fvs → E (.ref (ca K c)) (some da) H')
section
variable {P : Program} {w : World} [HW w] {K : Frag} {mg : Str → Option Value} {base : Heap} {name qual : Str} {params : Arguments} {body : List Stmt} {scope : Scope} {dvs : List V} {kws : List (Str × V)} {f : Addr} {fd : FuncData} {N ps : List Str} {k : Nat} {ow oN oB : Ow} {m : SM}
/-- an __init__ that makes an own instance with inner objects -/
theorem init_okN {cls : String} (F : FunD K name qual params body scope dvs kws f fd) (S : FnScope N ps scope) (hox : ow.x = none) (h0 : ow 0 = true) (hp0 : 0 < ps.length) (hp : ∀ i, 0 < i → i < ps.length → ow i = false)
    (hb : ∀ (cdv : Value) (A : Around) (outer : List PySem.Env) (s : Shared) (H : Hp) (E : XK), Ctx (cxOf (L2N.CX P w) P w K mg base N qual scope f cdv A outer s H E) (WD E) k →
      PSs (cxOf (L2N.CX P w) P w K mg base N qual scope f cdv A outer s H E) body (tS .val K (WD E) ow m)) :
    FnOk P w K mg base (L2N.CX P w) (k + 1) f fd ps (spIN K ps.length cls (made ps.length N.length cls m)) := by
  refine F.ok S (fun vs H Q E ⟨A, x, dx, H1, ds, ws, h1, _, _, _, _, r, h, _⟩ => by rw [h1, List.length_cons, ← r.length]; exact h) (fun cdv A outer s H vs Q E hr h => ?_)
  obtain ⟨AV, x, dx, H1, ds, ws, rfl, hH, hx, hdx, hne, r, hl, ha, q⟩ := h
  have sd : Same H1 (upd H1 dx (.own x)) := fun b o e => by
    rw [upd_ne (ne_of_none e hdx)]
    exact e
  have hx2 : upd H1 dx (.own x) x = none := by
    rw [upd_ne fun z => hne z.symm]
    exact hx
  have s2 : Same (upd H1 dx (.own x)) H := by
    rw [hH]
    exact new_same hx2
  have s1 : Same H1 H := sd.trans s2
  refine ⟨tS .val K (WD E) ow m, hb cdv A outer s H E ⟨rfl, L2N.takes_of rfl rfl rfl rfl, passes_of rfl, hr, S.nd⟩, AV, ⟨upd H1 dx (.own x), some x⟩, fun i => if i = 0 then some x else none, (some (.ins cls []) :: ds.map some) ++ List.replicate (N.length - ps.length) none, ?_, ?_⟩
  · have hlv := r.length
    have hN : ps.length ≤ N.length := by
      have := S.pre
      have h2 := congrArg List.length this
      rw [List.length_take] at h2
      omega
    have nx : ∀ i a, (if i = 0 then some x else none) = some a → i = 0 ∧ a = x := fun i a h => by
      by_cases hi : i = 0
      · rw [if_pos hi] at h
        cases h
        exact ⟨hi, rfl⟩
      · rw [if_neg hi] at h
        cases h
    have mv : Mv AV H1 (AO AV fun i => if i = 0 then some x else none) H := ⟨fun b hb => by
      rcases hb with hb | ⟨i, hb⟩
      · exact .inl hb
      · rw [(nx i b hb).2]
        exact .inr hx, fun b o e _ => s1 b o e⟩
    refine ⟨?_, fun b hb => ne_none s1 (ha b hb), s2, fun i d h1 h2 => ?_, fun i d h1 h2 => ?_, fun i a h => ?_, fun i j a h h' => (nx i a h).1.trans (nx j a h').1.symm, fun a h => ?_, XFact.none hox⟩
    · unfold L2.start
      simp only [List.length_append, List.length_map, List.length_replicate, List.length_cons]
      omega
    · cases i with
      | zero =>
        rw [h0] at h2
        cases h2
      | succ i =>
        by_cases hi : i < ds.length
        · rw [List.getElem?_append_left (by simpa using hi), List.getElem?_cons_succ, List.getElem?_map, List.getElem?_eq_getElem hi] at h1
          simp only [Option.map_some, Option.some.injEq] at h1
          subst h1
          obtain ⟨v, hv, rv⟩ := r.get (List.getElem?_eq_getElem hi)
          exact ⟨v, start_get (by simpa using hv), Rep.move mv _ _ rv⟩
        · rw [List.getElem?_append_right (by simpa using hi)] at h1
          rw [List.getElem?_replicate] at h1
          split at h1 <;> cases h1
    · cases i with
      | zero =>
        simp only [List.cons_append, List.getElem?_cons_zero, Option.some.injEq] at h1
        subst h1
        refine ⟨x, rfl, start_get rfl, dx, [], ?_, rfl⟩
        rw [hH]
        exact upd_same
      | succ i =>
        by_cases hi : i < ds.length
        · rw [hp (i + 1) (by omega) (by omega)] at h2
          cases h2
        · rw [List.getElem?_append_right (by simpa using hi)] at h1
          rw [List.getElem?_replicate] at h1
          split at h1 <;> cases h1
    · obtain ⟨_, rfl⟩ := nx i a h
      refine ⟨hx2, ?_, fun z => ha a z hx⟩
      rw [hH, upd_same]
      exact fun z => nomatch z
    · cases h
      rfl
  · unfold made at q
    rw [if_pos hl] at q
    refine (Out.bind q).imp (fun fl _ q => ?_) fun c fs q => ?_
    · cases fl with
      | next e' =>
        refine fun O' σ' H' R' _ => ?_
        cases e' with
        | nil => exact q.elim
        | cons d0 r0 =>
          cases d0 with
          | none => exact q.elim
          | some d1 =>
            cases d1 with
            | ins c fs =>
              have q2 : ∀ H' G, Same H1 H' → Inn AV (fun b => H1 b = none) H' x G → OwnG K (gA AV x G) G H' x (.ins c fs) → Q .non H' := q
              obtain ⟨G, n, _, g⟩ := R'.back (a := x) rfl (d := .non) (v := .non) (by simp [Rep]) (l := .ins c fs) rfl h0
              exact q2 H' G (sd.trans R'.same) ⟨fun t b z => ⟨upd_none' (n.new t b z).1, (n.new t b z).2⟩, n.inj⟩ g
            | _ => exact q.elim
      | ret d => exact q.elim
      | brk e' => exact q.elim
      | cnt e' => exact q.elim
    · exact fun σ' da H' fvs s' q' r' => q da H' fvs (sd.trans s') q' r'
end
/-- C(..) makes an own instance -/
def MakeN (P : Program) (w : World) (K : Frag) (mg : Str → Option Value) (base : Heap) (k : Nat) (cls : String) (n : Nat) (fm : List D → Res D) : Prop := ∃ f fd ps, mg (Str.ofString cls) = some (.ref (ca K cls)) ∧ Mk K (ca K cls) f ∧ Binds K fd ps [] ∧ FnOk P w K mg base (L2N.CX P w) k f fd ps (spIN K n cls fm) ∧ ∀ ds, ds.length + 1 ≠ n → fm ds = .stuck
section
variable {X : Cx} [CW X] {W : WX} {A : AS} {H0 : Base} {ow oN oB : Ow} {O : OW} {σ : L2.St} {H H' : Hp} {en : Env} {e : Expr} {es : List Expr} {am : AM} {m : EM} {pos p : Pos} {k j n i : Nat} {fm : List D → Res D} {cls : String} {st : Stmt} {fr : Rm}
theorem f_new (T : Ctx X W j) (C : MakeN X.prog X.w X.K X.mg X.base k cls n fm) (hk : k + 1 ≤ j) (hg : Gl X (Str.ofString cls)) (ha : PA X (e :: es) (aE X.K W ow am)) (hdb : (Str.ofString cls == ("__debug__" : Str)) = false := by decide)
    (he : starEach (e :: es) X.env = (false, eval e X.env) :: starEach es X.env := by rfl) (hpl : (backTo pos (starEach es X.env)).any (·.1) = false := by rfl) : PE X (.Call (.Name (Str.ofString cls) p) (e :: es) [] pos) (tN X.K W ow (call fm am)) := by
  obtain ⟨f, fd, ps, hm, M, hb, F, hn⟩ := C
  refine PE.of (mk_pe (E := WE W) M F (T.hr.mono hk) hg hm hb (fun σ => L2N.passAt T.tk σ) ha hdb he hpl) fun σ H Q ⟨A, H0, O, en, R, q⟩ => ?_
  refine ⟨A, H0, O, en, R, (Out.bind q).good fun ds q1 vs H1 s1 r1 y dx hy hdx hne => ?_⟩
  have old : ∀ b, H1 b = none → H b = none := fun b hb => by
    cases z : H b with
    | none => rfl
    | some u => rw [s1 b u z] at hb; cases hb
  refine ⟨AO A O, y, dx, H1, ds, vs, rfl, rfl, hy, hdx, hne, paired_rep r1, ?_, (R.to s1).there, ?_⟩
  · by_cases hl : ds.length + 1 = n
    · exact hl
    · rw [hn ds hl] at q1
      exact q1.elim
  · exact q1.imp (fun d _ k H2 G s2 n2 g2 => ⟨rfl, k _ G H2 (old _ hy) ⟨fun t b z => ⟨old _ (n2.new t b z).1, (n2.new t b z).2⟩, n2.inj⟩ (s1.trans s2) g2⟩) fun c fs z da H2 fvs s2 q2 r2 => z da H2 fvs (s1.trans s2) q2 r2
/-- a name gets an own instance -/
theorem ER.takeN {K : Frag} (R : ER K A H0 ow O σ H en) {a : Addr} {G : GW} {d : D} (s : Same H H') (hxi : ∀ q, ow.x = some q → q.i ≠ i) (hi : ow i = true) (h0 : 0 < i) (hn : H a = none) (n : Inn (AO A O) (fun b => H b = none) H' a G) (h : OwnG K (gA (AO A O) a G) G H' a d) :
    ER K A H0 ow (lentO i a G O) (σ.set i (some (.ref a))) H' (en.set i (some d)) ∧ Mv (AO A O) H (AO A (lentO i a G O)) H' := by
  have sub : ∀ b, AO A (lentO i a G O) b → gA (AO A O) a G b := fun b hb => by
    rcases hb with hb | ⟨j, hb⟩
    · exact .inl (.inl (.inl hb))
    · rcases lent_cases hb with ⟨_, hb⟩ | ⟨t, _, hb⟩ | ⟨_, hb⟩
      · exact .inl (.inr hb)
      · exact .inr ⟨t, hb⟩
      · exact .inl (.inl (.inr ⟨j, hb⟩))
  have mv : Mv (AO A O) H (AO A (lentO i a G O)) H' := ⟨fun b hb => by
    rcases sub b hb with (z | z) | ⟨t, z⟩
    · exact .inl z
    · rw [z]
      exact .inr hn
    · exact .inr (n.new t b z).1, fun b o e1 _ => s b o e1⟩
  have old : ∀ j b, O j = some b → b ≠ a := fun j b hb w => by
    subst w
    exact (R.fresh j b hb).2.1 hn
  have h0n : ∀ b, H b = none → H0.hp b = none := fun b hb => by
    cases z : H0.hp b with
    | none => rfl
    | some u => rw [R.same b u z] at hb; cases hb
  obtain ⟨u, hu, _⟩ := h.obj
  refine ⟨⟨by simp [R.len], fun b hb => ne_none s (R.a0 b hb), R.same.trans s, fun j dj h1 h2 => ?_, fun j dj h1 h2 => ?_, fun j b hb => ?_, fun j k b hj hk => ?_, fun b hb => (lent_other (by omega)).trans (R.pin b hb), fun q hq => ?_⟩, mv⟩
  · have hj : i ≠ j := fun z => by
      subst z
      rw [hi] at h2
      cases h2
    rw [List.getElem?_set_ne hj] at h1
    obtain ⟨v, q, r⟩ := R.vals j dj h1 h2
    exact ⟨v, by rw [List.getElem?_set_ne hj]; exact q, Rep.move mv _ _ r⟩
  · by_cases hj : i = j
    · subst hj
      have hl : i < en.length := by
        have := (List.getElem?_eq_some_iff.mp h1).1
        simpa using this
      rw [List.getElem?_set_self hl] at h1
      cases h1
      refine ⟨a, lent_self, List.getElem?_set_self (by rw [R.len]; exact hl), ?_⟩
      rw [lent_gh]
      exact h.move (Mv.less sub) rfl fun t b z => ⟨z, rfl⟩
    · rw [List.getElem?_set_ne hj] at h1
      obtain ⟨b, p1, p2, p3⟩ := R.owns j dj h1 h2
      exact ⟨b, (lent_other (by omega)).trans p1, by rw [List.getElem?_set_ne hj]; exact p2, p3.move mv (R.kept s p1) fun t b' z => ⟨(lent_other (by rw [third]; omega)).trans z, R.kept s z⟩⟩
  · rcases lent_cases hb with ⟨_, rfl⟩ | ⟨t, _, hb⟩ | ⟨_, hb⟩
    · exact ⟨h0n _ hn, by rw [hu]; exact (fun z => nomatch z), fun z => R.a0 _ z hn⟩
    · obtain ⟨z1, z2, z3, z4⟩ := n.new t b hb
      exact ⟨h0n _ z1, z2, fun w => z3 (.inl w)⟩
    · exact ⟨(R.fresh j b hb).1, ne_none s (R.fresh j b hb).2.1, (R.fresh j b hb).2.2⟩
  · have key : ∀ t j b, G t = some b → O j = some b → False := fun t j b z1 z2 => (n.new t b z1).2.2.1 (.inr ⟨j, z2⟩)
    rcases lent_cases hj with ⟨z1, z2⟩ | ⟨t, z1, z2⟩ | ⟨z1, z2⟩ <;> rcases lent_cases hk with ⟨y1, y2⟩ | ⟨t', y1, y2⟩ | ⟨y1, y2⟩
    · omega
    · exact absurd z2 (n.new t' b y2).2.2.2
    · exact absurd z2 (old k b y2)
    · exact absurd y2 (n.new t b z2).2.2.2
    · rw [z1, y1, n.inj t t' b z2 y2]
    · exact (key t k b z2 y2).elim
    · exact absurd y2 (old j b z2)
    · exact (key t' j b y2 z2).elim
    · exact R.inj j k b z2 y2
  · obtain ⟨z1, z2, z3, fvs, z4, z5⟩ := R.exq q hq
    have hne : i ≠ q.i := fun z => hxi q hq z.symm
    refine ⟨z1, ?_, ?_, fvs, s _ _ z4, RepF.move mv _ _ z5⟩ <;> rw [List.getElem?_set_ne hne]
    · exact z2
    · exact z3
theorem c_ownN (h : PS X st (tAsg (tN X.K W ow m) (gName i))) (hi : ow i = false) (hN : ∀ j, oN j = (j == i || ow j)) (h0 : 0 < i := by decide) (hx : XLe oN ow := by first | exact Or.inl rfl | exact XLe.refl | exact Or.inr ⟨rfl, by intro q z; cases z; intro _; rfl⟩) : PS X st (tS3 fr X.K W ow oN oB (asg (gnm i) m)) :=
  PS.of h fun D σ H ⟨A, H0, O, en, R, q⟩ => ⟨A, H0, O, en, R, ((Out.bind q).se R).good fun d q1 a G H1 n inn s1 r1 => by
    have hNi : oN i = true := by rw [hN]; simp
    have hxi : ∀ q, oN.x = some q → q.i ≠ i := fun q hq z => by
      rcases hx with hx | ⟨hx, _⟩
      · rw [hx] at hq
        cases hq
      · have z2 := (R.exq q (hx ▸ hq)).own
        rw [z, hi] at z2
        cases z2
    obtain ⟨R2, mv⟩ := (R.opens hi hN hx).takeN s1 hxi hNi h0 n inn r1
    rw [List.set_set] at R2
    exact q1 _ _ H1 R2 mv⟩
end
end Py
/-! Parallel assignments, clean inner fields, comprehensions with effects. -/
namespace Py
variable [WI]
open PySem L2
section
variable {fr : Rm} {X : Cx} [CW X] {W : WX} {A : AS} {H0 : Base} {ow oN oB : Ow} {O : OW} {a b o e : Expr} {es : List Expr} {m ma : EM} {mx : XM} {am : AM} {st : Stmt} {apos cpos fpos pos : Pos} {i j : Nat} {c f : String}
/-- any field of what is no own object -/
theorem x_attrE {cs : List String} {f : String} (F : ∀ c ∈ cs, Cls X.K (ca X.K c) ∧ NoAttr X.K (ca X.K c) (Str.ofString f)) (ha : PE X a (tE X.K W ow ma))
    (hb : attributeBase a (Str.ofString f) X.env (eval a X.env) = eval a X.env := by rfl) : PE X (.Attribute a (Str.ofString f) pos) (tE X.K W ow (un (oattr cs f) ma)) :=
  PE.of (pe_fld ha hb) fun σ H Q ⟨A, H0, O, en, R, q⟩ => ⟨A, H0, O, en, R, (Out.bind q).good fun d q1 v H1 s1 r1 => by
    cases d with
    | ins c fs =>
      simp only [oattr] at q1
      split at q1
      · rename_i hc
        obtain ⟨h1, h2⟩ := F c (by simpa using hc)
        simp only [Rep] at r1
        obtain ⟨p, dx, fvs, rfl, _, q2, r2⟩ := r1
        have lk := r2.look (f := f)
        cases hl : fs.lookup f with
        | none =>
          rw [hl] at q1
          exact q1.elim
        | some d' =>
          rw [hl] at q1 lk
          obtain ⟨v', e1, r'⟩ := lk
          exact ⟨p, _, dx, fvs, v', rfl, q2, h1, h2, e1, q1 v' H1 s1 r'⟩
      · exact q1.elim
    | _ => exact q1.elim⟩
theorem s_appF1 (F : Cls X.K (ca X.K c) ∧ NoAttr X.K (ca X.K c) (Str.ofString f)) (ho : PE X o (tVar i)) (h : PE X e (tE X.K W ow m)) (hi : ow i = true) (hf : inn c f = true)
    (hb : attributeBase o (Str.ofString f) X.env (eval o X.env) = eval o X.env := by rfl)
    (hbase : attributeBase (.Attribute o (Str.ofString f) fpos) "append" X.env (eval (.Attribute o (Str.ofString f) fpos) X.env) = eval (.Attribute o (Str.ofString f) fpos) X.env := by rfl)
    (hfew : ((backTo cpos (starEach [e] X.env)).all (fun x => !x.1) && (backToKw cpos (keywordEach [] X.env)).all (fun x => x.1.isSome)
      && decide (([e] : List Expr).length + ([] : List Keyword).length + (if ([] : List Keyword).isEmpty then 0 else 1) < 30)) = true := by rfl)
    (hline : (apos.endLine == cpos.line) = true := by rfl) (hs : starEach [e] X.env = [(false, eval e X.env)] := by rfl)
    (hsw : swapsWith (.Call (.Attribute (.Attribute o (Str.ofString f) fpos) "append" apos) [e] [] cpos) none pos.line X.env = pure false := by rfl) :
    PS X (.Expr (.Call (.Attribute (.Attribute o (Str.ofString f) fpos) "append" apos) [e] [] cpos) pos) (tS fr X.K W ow (appF i c f m)) :=
  s_appF F (ps_expr (pe_bm PySem.F.plainAttrs_list PySem.F.slot_list_append PySem.F.type_list_append mt_append (pe_fld ho hb) (pa_cons h pa_nil hs) hbase hfew hline hs (by rfl)) hsw) hi hf
end
section
variable {P : Program} {w : World} [HW w] {K : Frag} {mg : Str → Option Value} {base : Heap} {k : Nat} {ow oN oB : Ow} {m : SM} {name qual : Str} {params : Arguments} {body : List Stmt} {scope : Scope} {f : Addr} {N ps : List Str} {p n : Nat}
theorem cls_okN {cls : String} (F : ∃ fd, FunD K name qual params body scope [] [] f fd) (g : mg (Str.ofString cls) = some (.ref (ca K cls))) (M : Mk K (ca K cls) f) (S : FnScope N ps scope) (hpl : ps.length = p) (hnl : N.length = n) (h0 : ow 0 = true) (hp0 : 0 < p) (hp : ∀ i, i < p → 0 < i → ow i = false)
    (hbind : ∀ (kV doc pm : Value) (an : Option Addr) (cdv ct : Value) (us : List Value), us.length = ps.length → bindArgs (PySem.W.fnOf name qual params body scope .none kV doc pm an cdv ct) ⟨us, []⟩ = pure (ps.zip us))
    (hb : ∀ (cdv : Value) (A : Around) (outer : List PySem.Env) (s : Shared) (H : Hp) (E : XK), Ctx (cxOf (L2N.CX P w) P w K mg base N qual scope f cdv A outer s H E) (WD E) k →
      PSs (cxOf (L2N.CX P w) P w K mg base N qual scope f cdv A outer s H E) body (tS .val K (WD E) ow m)) (hx : ow.x = none := by rfl) : MakeN P w K mg base (k + 1) cls p (made p n cls m) := by
  obtain ⟨fd, F⟩ := F
  subst hpl hnl
  exact ⟨f, fd, ps, g, M, FunD.bindsN F hbind, init_okN F S hx h0 hp0 (fun i a b => hp i b a) hb, ar_made⟩
end
end Py
/-! Dict displays of constants; comprehensions whose elements change own objects. -/
namespace Py
variable [WI]
open PySem L2
section
variable {X : Cx} [CW X] {W : WX} {ow : Ow} {pos : Pos}
inductive CRel : List (D × D) → List (Key × V) → Prop
  | nil : CRel [] []
  | cons {p : D × D} {q : Key × V} {kds : List (D × D)} {kvs : List (Key × V)} : kvK p.1 = some q.1 → flat p.2 = some q.2 → CRel kds kvs → CRel (p :: kds) (q :: kvs)
/-- a display of constants -/
structure CKs (X : Cx) (pos : Pos) (keys : List (Option Expr)) (values : List Expr) (kds : List (D × D)) (kvs : List (Key × V)) : Prop where
  run : PPs X pos keys values (kvs.map fun q => (tC (kV q.1), tC q.2))
  rel : CRel kds kvs
theorem ck_nil : CKs X pos [] [] [] [] := ⟨pps_nil, .nil⟩
theorem ck_cons {k v : Expr} {ks : List (Option Expr)} {vs : List Expr} {kd vd : D} {c : Key} {y : V} {kds : List (D × D)} {kvs : List (Key × V)} (hk : PE X k (tC (kV c))) (hv : PE X v (tC y)) (h1 : kvK kd = some c) (h2 : flat vd = some y) (hr : CKs X pos ks vs kds kvs) :
    CKs X pos (some k :: ks) (v :: vs) ((kd, vd) :: kds) ((c, y) :: kvs) := ⟨pps_cons hk hv hr.run, .cons h1 h2 hr.rel⟩
theorem ck_si {s : String} {n : Int} {j j2 p p2} {ks : List (Option Expr)} {vs : List Expr} {kds : List (D × D)} {kvs : List (Key × V)} (hr : CKs X pos ks vs kds kvs) :
    CKs X pos (some (.Constant (.str (Str.ofString s)) j p) :: ks) (.Constant (.int n) j2 p2 :: vs) ((.str s, .int n) :: kds) ((.inr (Str.ofString s), .int n) :: kvs) := ck_cons pe_str pe_int rfl rfl hr
omit [CW X] in
theorem tPairs_const {σ : L2.St} {H : Hp} : ∀ {kvs : List (Key × V)} {Q : List (V × V) → Hp → Prop}, Q (kvs.map fun q => (kV q.1, q.2)) H → tPairs (kvs.map fun q => (tC (kV q.1), tC q.2)) σ H Q
  | [], Q, h => h
  | q :: kvs, Q, h => tPairs_const (kvs := kvs) (Q := fun ps H3 => Q ((kV q.1, q.2) :: ps) H3) h
theorem merge_rep {K : Frag} {A : AS} {H : Hp} {kds : List (D × D)} {kvs : List (Key × V)} (h : CRel kds kvs) :
    ∀ {d0 : List (D × D)} {k0 : List (Key × V)}, RepK K A H d0 k0 → (k0.map (·.1)).Nodup → RepK K A H (kds.foldl (fun a q => putD q.1 q.2 a) d0) (mergeK k0 kvs) := by
  induction h with
  | nil => intro d0 k0 r _; exact r
  | @cons p q kds kvs h h2 _ ih =>
    intro d0 k0 r nd
    refine ih (put_K h (flat_rep h2 _ _) r nd) ?_
    cases z : valV k0 q.1 with
    | none => exact nd_putK _ nd z
    | some v =>
      dsimp only
      unfold putK
      split
      · rw [List.map_map, List.map_congr_left (g := (·.1)) fun a _ => ?_]
        · exact nd
        · dsimp only [Function.comp]
          split <;> rfl
      · rename_i w
        refine absurd ?_ w
        unfold valV at z
        cases y : (k0.find? fun kv => decide (kv.1 = q.1)) with
        | none => rw [y] at z; cases z
        | some u => exact List.any_eq_true.mpr ⟨u, List.mem_of_find?_eq_some y, List.find?_some (p := fun (kv : Key × V) => decide (kv.1 = q.1)) y⟩
/-- {k: v, ..}, constants all -/
theorem f_dicC {keys : List (Option Expr)} {values : List Expr} {kds : List (D × D)} {kvs : List (Key × V)} (h : CKs X pos keys values kds kvs) (hall : keys.all (·.isSome) = true := by rfl) (hl : keys.length = values.length := by rfl) (h0 : keys ≠ [] := by simp)
    (h15 : keys.length ≤ 15 := by decide) (h16 : kvs.length ≤ 15 := by simp) : PE X (.Dict keys values pos) (tF X.K W ow (dicS kds)) :=
  PE.of (pe_disp h.run hall hl h0 h15) fun σ H Q ⟨A, H0, O, en, R, q⟩ p hp => tPairs_const ⟨upd_same, kvs, rfl, h16, q p _ hp (fun b o e => by
    have hb : b ≠ p := fun z => by
      rw [z, hp] at e
      cases e
    rw [upd_ne hb, upd_ne hb]
    exact e) (.inl ⟨rfl, _, upd_same, merge_rep h.rel (by simp [RepK]) (by simp)⟩)⟩
end
end Py
/-! Comprehensions whose elements change own objects. -/
namespace Py
variable [WI]
open PySem L2
omit [WI] in
theorem mend_get : ∀ {os : List Nat} {e e2 : Env}, e2.length = e.length → ∀ i, (mend os e e2)[i]? = if i ∈ os then e2[i]? else e[i]?
  | [], e, e2, _, i => by simp [mend]
  | o :: os, e, e2, hl, i => by
    have h : mend (o :: os) e e2 = mend os (match e2[o]? with | some x => e.set o x | none => e) e2 := rfl
    rw [h]
    cases z : e2[o]? with
    | none =>
      dsimp only
      rw [mend_get hl i]
      by_cases q : i ∈ os
      · rw [if_pos q, if_pos (List.mem_cons_of_mem _ q)]
      · rw [if_neg q]
        by_cases q2 : i = o
        · subst q2
          rw [if_pos List.mem_cons_self, z]
          have := List.getElem?_eq_none_iff.mp z
          exact List.getElem?_eq_none_iff.mpr (by omega)
        · rw [if_neg fun w => (List.mem_cons.mp w).elim q2 q]
    | some x =>
      dsimp only
      rw [mend_get (by simp [hl]) i]
      by_cases q : i ∈ os
      · rw [if_pos q, if_pos (List.mem_cons_of_mem _ q)]
      · rw [if_neg q]
        by_cases q2 : i = o
        · subst q2
          rw [if_pos List.mem_cons_self, z]
          have := (List.getElem?_eq_some_iff.mp z).1
          exact List.getElem?_set_self (by omega)
        · rw [if_neg fun w => (List.mem_cons.mp w).elim q2 q]
          exact List.getElem?_set_ne fun w => q2 w.symm
omit [WI] in
theorem mend_len : ∀ {os : List Nat} {e e2 : Env}, (mend os e e2).length = e.length
  | [], e, e2 => rfl
  | o :: os, e, e2 => by
    have h : mend (o :: os) e e2 = mend os (match e2[o]? with | some x => e.set o x | none => e) e2 := rfl
    rw [h, mend_len]
    split <;> simp
section
variable {K : Frag} {A : AS} {H0 : Base} {ow : Ow} {O O2 : OW} {σ σ2 : L2.St} {H H2 : Hp} {e e2 : Env} {os : List Nat}
/-- the frame takes the own objects back as the block leaves them -/
theorem ER.mend (R : ER K A H0 ow O σ H e) (R2 : ER K A H0 ow O2 σ2 H2 e2) (m : Mv (AO A O) H (AO A O2) H2) (hos : ∀ i, ow i = true ↔ i ∈ os) (hl : σ2.length = σ.length) (hk : ∀ i ∈ os, σ2[i]? = σ[i]?) (hx : ow.x = none) : ER K A H0 ow O2 σ H2 (Py.mend os e e2) := by
  have hle : e2.length = e.length := by rw [← R2.len, ← R.len, hl]
  refine ⟨by rw [mend_len]; exact R.len, R2.a0, R2.same, fun i d h1 h2 => ?_, fun i d h1 h2 => ?_, R2.fresh, R2.inj, R2.pin, XFact.none hx⟩
  · rw [mend_get hle, if_neg fun w => by rw [(hos i).mpr w] at h2; cases h2] at h1
    obtain ⟨v, q, r⟩ := R.vals i d h1 h2
    exact ⟨v, q, Rep.move m _ _ r⟩
  · have hi := (hos i).mp h2
    rw [mend_get hle, if_pos hi] at h1
    obtain ⟨a, q, q2, r⟩ := R2.owns i d h1 h2
    exact ⟨a, q, (hk i hi).symm.trans q2, r⟩
/-- what stands aside is held fast for a while -/
theorem ER.hold {D : Addr} {u : HO} (R : ER K A H0 ow O σ H e) (hA : A D) (h0 : H0.hp D = none) (hD : H D = some u) : ER K A ⟨upd H0.hp D u, H0.px⟩ ow O σ H e :=
  ⟨R.len, R.a0, fun b o e1 => by
    have e2 : upd H0.hp D u b = some o := e1
    by_cases hb : b = D
    · subst hb
      rw [upd_same] at e2
      rw [hD]
      exact e2
    · rw [upd_ne hb] at e2
      exact R.same b o e2, R.vals, R.owns, fun i a h => ⟨by
      show upd H0.hp D u a = none
      have hne : a ≠ D := fun w => (R.fresh i a h).2.2 (by rw [w]; exact hA)
      rw [upd_ne hne]
      exact (R.fresh i a h).1, (R.fresh i a h).2⟩, R.inj, R.pin, R.exq⟩
theorem ER.unhold {D : Addr} {u : HO} (h0 : H0.hp D = none) (R : ER K A ⟨upd H0.hp D u, H0.px⟩ ow O σ H e) : ER K A H0 ow O σ H e :=
  ⟨R.len, R.a0, fun b o e1 => R.same b o (by
    show upd H0.hp D u b = some o
    rw [upd_ne fun w => by rw [w, h0] at e1; cases e1]
    exact e1), R.vals, R.owns, fun i a h => ⟨by
      have z := (R.fresh i a h).1
      by_cases hb : a = D
      · rw [hb]; exact h0
      · exact (show upd H0.hp D u a = H0.hp a from upd_ne hb) ▸ z, (R.fresh i a h).2⟩, R.inj, R.pin, R.exq⟩
def lessH (D : Addr) (H : Hp) : Hp := fun b => if b = D then none else H b
theorem lessH_ne {D b : Addr} {H : Hp} (h : b ≠ D) : lessH D H b = H b := if_neg h
/-- the heap before D was laid -/
theorem ER.unput {D : Addr} {vs : List V} {A' : AS} (R : ER K A' H0 ow O σ H e) (hA : ∀ b, A' b ↔ A b ∨ b = D) (nA : ¬ A D) (h0 : H0.hp D = none) (hD : H D = some (.lst vs)) (hx : ow.x = none) : ER K A H0 ow O σ (lessH D H) e ∧ Mv (AO A' O) H (AO A O) (lessH D H) := by
  have hAD : A' D := (hA D).mpr (.inr rfl)
  have mv : Mv (AO A' O) H (AO A O) (lessH D H) := ⟨fun b hb => .inl (hb.elim (fun z => .inl ((hA b).mpr (.inl z))) .inr), fun b o e1 hb => by
    rw [lessH_ne]
    · exact e1
    · intro w
      subst w
      rcases hb with hb | hb
      · exact hb (.inl hAD)
      · rw [hD] at e1
        cases e1
        exact hb⟩
  have nO : ∀ i a, O i = some a → a ≠ D := fun i a h w => (R.fresh i a h).2.2 (w ▸ hAD)
  refine ⟨⟨R.len, fun b hb => ?_, fun b o e1 => ?_, fun i d h1 h2 => ?_, fun i d h1 h2 => ?_, fun i a h => ⟨(R.fresh i a h).1, ?_, fun z => (R.fresh i a h).2.2 ((hA a).mpr (.inl z))⟩, R.inj, R.pin, XFact.none hx⟩, mv⟩
  · have hne : b ≠ D := fun w => nA (by rw [← w]; exact hb)
    rw [lessH_ne hne]
    exact R.a0 b ((hA b).mpr (.inl hb))
  · rw [lessH_ne fun w => by rw [w, h0] at e1; cases e1]
    exact R.same b o e1
  · obtain ⟨v, q, r⟩ := R.vals i d h1 h2
    exact ⟨v, q, Rep.move mv _ _ r⟩
  · obtain ⟨a, q, q2, r⟩ := R.owns i d h1 h2
    exact ⟨a, q, q2, r.move mv (lessH_ne (nO _ a q)) fun t b z => ⟨z, lessH_ne (nO _ b z)⟩⟩
  · rw [lessH_ne (nO i a h)]
    exact (R.fresh i a h).2.1
end
section
variable {W : WX} {ow : Ow}
theorem compLX_drop {f : D → Env → Res (Option D × Env)} {xs : List D} {i : Nat} {e : Env} {G : List D × Env → Prop} {F : String → List (String × D) → Prop} (hi : i < xs.length) (h : Out (compLX f (xs.drop i) e) G F) :
    Out (f xs[i] e) (fun o => Out (compLX f (xs.drop (i + 1)) o.2) (fun q => G (match o.1 with | some y => y :: q.1 | none => q.1, q.2)) F) F := by
  rw [List.drop_eq_getElem_cons hi] at h
  simp only [compLX] at h
  exact (Out.bind h).good fun o h2 => (Out.bind h2).good fun zs h3 => h3
/-- [elt for tg in iter if test], elt and test change own objects -/
theorem lcX_of {K : Frag} {it : IM} {os vs ts : List Nat} {g : GM} {t : XT} {elt : XM} (hx : ow.x = none) (hts : ∀ j ∈ ts, j ∈ vs) (hos : ∀ i, ow i = true ↔ i ∈ os) (hd : ∀ i ∈ os, i ∉ vs) {σ : L2.St} {H : Hp} {Q : VK} (h : tXF K W ow (lcX os it vs g t elt) σ H Q) :
    tLc (tI Mv K W ow it) (tGt K ow ts g) (tXT K W0 ow t) (tX K W0 ow elt) vs σ H Q := by
  obtain ⟨A, H0, O, en, R, q⟩ := h
  refine ⟨A, H0, O, en, R, ((Out.bind q).se R).good fun xs q1 J H1 s1 itm D hD => ?_⟩
  have q0 := noexc_of (bad' := Nev) q1
  by_cases hsz : xs.length ≤ SZ
  case neg =>
    exact (Out.void (q0.good fun ys q2 => by
      unfold chk at q2
      rw [if_neg hsz] at q2
      exact q2)).elim
  have R1 := R.to s1
  have hAD : ¬ AO A O D := fun z => R1.there D z hD
  have nA : ¬ A D := fun z => hAD (.inl z)
  have h0D : H0.hp D = none := R1.same.free hD
  have q2 := q0.good fun ys (q2 : Out (chk xs.length (.lst ys.1) >>= fun d => Res.ok (d, ys.2)) _ _) => (by
    unfold chk at q2
    rw [if_pos hsz] at q2
    exact fun a O' H2 H' R2 m n s h => q2 a O' H2 H' R2 ((Mv.same s1).trans m) n s h : ∀ (a : Addr) (O' : OW) (H2 H' : Hp), ER K A H0 ow O' σ H2 ys.2 → Mv (AO A O) H1 (AO A O') H2 → H2 a = none → Same H2 H' → OwnAt K (fun b => AO A O' b ∨ b = a) H' a (.lst ys.1) → Q (.ref a) H')
  have hsl : SZ = sizeLine := rfl
  generalize hA' : (fun b => A b ∨ b = D : AS) = A'
  have hA1 : ∀ b, A' b ↔ A b ∨ b = D := fun b => by subst hA'; exact Iff.rfl
  have hAD' : A' D := (hA1 D).mpr (.inr rfl)
  refine ⟨fun i m H' => m = xs.length - i ∧ i ≤ xs.length ∧ ∃ acc vs' O' e', H' D = some (.lst vs') ∧ ER K A' H0 ow O' σ H' e' ∧ Mv (AO A O) H1 (AO A' O') H' ∧ acc.length ≤ i ∧ RepL K (AO A' O') H' acc vs' ∧
    Out (compLX (compFX os vs g t elt) (xs.drop i) e') (fun zs => ∀ (a : Addr) (O' : OW) (H2 H' : Hp), ER K A H0 ow O' σ H2 zs.2 → Mv (AO A O) H1 (AO A O') H2 → H2 a = none → Same H2 H' → OwnAt K (fun b => AO A O' b ∨ b = a) H' a (.lst (acc ++ zs.1)) → Q (.ref a) H') Nev,
    ⟨xs.length, by simp, Nat.zero_le _, [], [], O, en, upd_same, ?_, ?_, Nat.le_refl _, by simp [RepL], q2⟩, ?_⟩
  · have R2 := R1.aside (o := .lst []) hD
    rw [hA'] at R2
    exact R2
  · exact ⟨fun b hb => by
      rcases hb with hb | hb
      · rcases (hA1 b).mp hb with z | z
        · exact .inl (.inl z)
        · rw [z]; exact .inr hD
      · exact .inl (.inr hb), fun b o e1 _ => new_same hD b o e1⟩
  rintro i m H' ⟨rfl, hi, acc, vs', O', e', hH', R', mv', hal, hr2, hz⟩
  have im := itm i (AO A' O') H' mv'
  by_cases hlt : i < xs.length
  · right
    obtain ⟨hgo, hy⟩ := im.1 hlt
    have hf := compLX_drop hlt hz
    refine ⟨hgo, fun H'' => ∃ acc vs' O' e', H'' D = some (.lst vs') ∧ ER K A' H0 ow O' σ H'' e' ∧ Mv (AO A O) H1 (AO A' O') H'' ∧ acc.length ≤ i + 1 ∧ RepL K (AO A' O') H'' acc vs' ∧
      Out (compLX (compFX os vs g t elt) (xs.drop (i + 1)) e') (fun zs => ∀ (a : Addr) (O' : OW) (H2 H' : Hp), ER K A H0 ow O' σ H2 zs.2 → Mv (AO A O) H1 (AO A O') H2 → H2 a = none → Same H2 H' → OwnAt K (fun b => AO A O' b ∨ b = a) H' a (.lst (acc ++ zs.1)) → Q (.ref a) H') Nev,
      fun H'' ⟨a1, a2, a3, a4, h1, h2, h3, h4, h5, h6⟩ => ⟨xs.length - (i + 1), by omega, rfl, by omega, a1, a2, a3, a4, h1, h2, h3, h4, h5, h6⟩, fun x H3 y => ?_⟩
    obtain ⟨s3, d, hd1, rd⟩ := hy x H3 y
    have hd' : d = xs[i] := by
      rw [List.getElem?_eq_getElem hlt] at hd1
      exact (Option.some.inj hd1).symm
    subst hd'
    unfold compFX at hf
    cases hg : g xs[i] (wipe e' vs) with
    | none => rw [hg] at hf; exact hf.elim
    | some e1 =>
      rw [hg, lift_some, bind_ok] at hf
      have RF : ER K A' ⟨upd H0.hp D (.lst vs'), H0.px⟩ ow O' σ H3 e' := (R'.hold hAD' h0D hH').to s3
      refine ⟨A', _, O', wipe e' vs, xs[i], e1, RF.wipe vs hx, rd, hg, fun σ1 Rσ l1 k1 => ⟨?_, ?_⟩⟩
      · have w1 := wipe_eq (vs := vs) (σ := L2.wipe σ vs) (σ' := σ1) l1 fun j hj => k1 j fun z => hj (hts j z)
        rw [w1]
        exact wipe_eq (L2.wipe_length _ _) fun j hj => L2.wipe_out hj
      · have ll : σ1.length = σ.length := l1.trans (L2.wipe_length _ _)
        have kk : ∀ j ∈ os, σ1[j]? = σ[j]? := fun j hj => (k1 j fun z => hd j hj (hts j z)).trans (L2.wipe_out (hd j hj))
        refine ⟨A', _, O', e1, Rσ, (Out.bind hf).imp (fun p _ hf => ?_) fun _ _ z => z.elim⟩
        obtain ⟨bb, e4⟩ := p
        intro O4 H4 R4 m4
        cases bb with
        | false =>
          dsimp only at hf ⊢
          rw [if_neg (by decide)] at hf ⊢
          have hD4 : H4 D = some (.lst vs') := R4.same D _ upd_same
          exact ⟨acc, vs', O4, _, hD4, (RF.mend R4 m4 hos ll kk hx).unhold h0D, (mv'.trans (Mv.same s3)).trans m4, by omega, RepL.move ((Mv.same s3).trans m4) _ _ hr2, hf⟩
        | true =>
          dsimp only at hf ⊢
          rw [if_pos rfl] at hf ⊢
          refine ⟨A', _, O4, e4, R4, (Out.bind hf).imp (fun p2 _ hf => ?_) fun _ _ z => z.elim⟩
          obtain ⟨y', e5⟩ := p2
          intro v5 O5 H5 R5 m5 r5
          have hD5 : H5 D = some (.lst vs') := R5.same D _ upd_same
          have R6 := (RF.mend R5 (m4.trans m5) hos ll kk hx).unhold h0D
          have hr5 := RepL.move (((Mv.same s3).trans m4).trans m5) _ _ hr2
          have hlen := hr2.length
          obtain ⟨R7, m7⟩ := R6.poke (o := .lst (vs' ++ [v5])) hAD' h0D hD5
          refine ⟨vs', hD5, by omega, acc ++ [y'], vs' ++ [v5], O5, _, upd_same, R7, (((mv'.trans (Mv.same s3)).trans m4).trans m5).trans m7, by simp; omega, RepL.move m7 _ _ (hr5.append (RepL.one r5)), ?_⟩
          exact Out.good (show Out (compLX _ _ _) _ _ from hf) fun zs h => by rw [List.append_assoc]; exact h
  · left
    refine ⟨im.2 (by omega), ?_⟩
    have hi2 : i = xs.length := by omega
    subst hi2
    rw [List.drop_length] at hz
    have hz : ∀ (a : Addr) (O2 : OW) (H2 H' : Hp), ER K A H0 ow O2 σ H2 e' → Mv (AO A O) H1 (AO A O2) H2 → H2 a = none → Same H2 H' → OwnAt K (fun b => AO A O2 b ∨ b = a) H' a (.lst (acc ++ [])) → Q (.ref a) H' := hz
    rw [List.append_nil] at hz
    obtain ⟨R2, m2⟩ := R'.unput hA1 nA h0D hH' hx
    refine hz D O' (lessH D H') H' R2 (mv'.trans m2) (if_pos rfl) (fun b o e1 => ?_) ⟨vs', hH', RepL.move (Mv.less fun b hb => ?_) _ _ hr2⟩
    · unfold lessH at e1
      split at e1
      · cases e1
      · exact e1
    · rcases hb with (hb | hb) | hb
      · exact .inl ((hA1 b).mpr (.inl hb))
      · exact .inr hb
      · exact .inl ((hA1 b).mpr (.inr hb))
end
theorem ownS_iff : ∀ {l : List Nat} {i : Nat}, ownS l i = true ↔ i ∈ l := fun {l i} => ⟨owS_mem, fun h => by
  induction l with
  | nil => cases h
  | cons j l ih =>
    unfold ownS
    rw [Bool.or_eq_true]
    rcases List.mem_cons.mp h with h | h
    · exact .inl (by rw [h]; simp)
    · exact .inr (ih h)⟩
section
variable {X : Cx} [CW X] {W : WX} {ow : Ow} {c : Expr} {pos p spos : Pos} {k j n : Nat} {os : List Nat}
variable {elt tg iter : Expr} {ifs : List Expr} {scope : Scope} {own : List (Str × Nat)} {it : IM} {g : GM} {t : XT} {me : XM} {ts : List Nat}
theorem ts_nilX : PTs X [] (tXT X.K W ow (upT yes)) := ⟨fun pins s σ H Q I ⟨A, H0, O, en, R, q⟩ => pts_nil.run pins s σ H Q I (q O H R Mv.refl)⟩
theorem f_lcX (T : Ctx X W j) (hi : PI X tg iter (tI Mv X.K W ow it)) (ok : BlkOk X.N X.env.scope scope own)
    (hg : ∀ (s : Shared) (H : Hp) (C : Addr) (cl : List (Str × Addr)) (fp : List Addr), Ctx (X.blk s H scope (compEnvC scope cl C X.env) fp) W0 j → PG (X.blk s H scope (compEnvC scope cl C X.env) fp) tg (tGt X.K ow ts g))
    (ht : ∀ (s : Shared) (H : Hp) (C : Addr) (cl : List (Str × Addr)) (fp : List Addr), Ctx (X.blk s H scope (compEnvC scope cl C X.env) fp) W0 j → PTs (X.blk s H scope (compEnvC scope cl C X.env) fp) ifs (tXT X.K W0 ow t))
    (he : ∀ (s : Shared) (H : Hp) (C : Addr) (cl : List (Str × Addr)) (fp : List Addr), Ctx (X.blk s H scope (compEnvC scope cl C X.env) fp) W0 j → PE (X.blk s H scope (compEnvC scope cl C X.env) fp) elt (tX X.K W0 ow me))
    (hts : ∀ i ∈ ts, i ∈ own.map (·.2)) (ho : ow = owS os := by rfl) (hd : ∀ i ∈ os, i ∉ own.map (·.2) := by decide) (hs : ∀ x, foldedSetIterable iter X.env x = pure x := by intro _; rfl) :
    PE X (.ListComp elt [⟨tg, iter, ifs, 0⟩] scope pos) (tXF X.K W ow (lcX os it (own.map (·.2)) g t me)) :=
  PE.of (pe_lc T.calm T.nd hi ok (fun s H C cl fp => hg s H C cl fp (T.blk ..)) (fun s H C cl fp => ht s H C cl fp (T.blk ..)) (fun s H C cl fp => he s H C cl fp (T.blk ..)) hs) fun _ _ _ h => lcX_of (by rw [ho]) hts (fun i => by rw [ho]; exact ownS_iff) hd h
end
section
variable {X : Cx} [CW X] {W : WX} {ow oN oB : Ow} {o e : Expr} {es : List Expr} {am : XA} {pos apos rpos : Pos} {k j n i : Nat} {cls mn : String} {fm : List D → Res D}
theorem s_retMX {pl : Sem Bool} {m : Str} (hm : m = Str.ofString mn) (T : Ctx X W j) (C : MethOk X.prog X.w X.K X.mg X.base k cls mn n fm) (hk : k ≤ j) (ho : PE X o (tVar i)) (hi : ow i = true) (ha : PA X (e :: es) (tXA X.K W ow am)) (hx : ow.x = none := by rfl)
    (hst : starEach (e :: es) X.env = (false, eval e X.env) :: starEach es X.env := by rfl) (hpl : (backTo pos (starEach es X.env)).any (·.1) = false := by rfl)
    (ht : eval (.Call (.Attribute o m apos) (e :: es) [] pos) X.env = (do
      let ov ← eval o X.env
      standAt apos.atName
      let (f, first) ← holding [ov] (getMethod ov m pl)
      callWith pos f first (backTo pos (starEach (e :: es) X.env)) (backToKw pos (keywordEach [] X.env))) := by rfl) :
    PS X (.Return (some (.Call (.Attribute o m apos) (e :: es) [] pos)) rpos) (tS3 .val X.K W ow oN oB (retMX i cls mn fm am)) := by
  obtain ⟨f, fd, ps, h1, h2, h3, h4, h5⟩ := C.ex
  subst hm
  refine PS.of (ps_ret (pe_methS (E := WE W) ho h1 h2 h4 (T.hr.mono hk) h3 (fun σ => L2N.passAt T.tk σ) ha hst hpl ht)) fun D σ H h => ?_
  obtain ⟨A, H0, O, en, R, q⟩ := h
  obtain ⟨o0, ho0, q1⟩ := var_ok q
  obtain ⟨a, p1, p2, g⟩ := R.owns i o0 ho0 hi
  cases o0 with
  | ins c' fs =>
    simp only at q1
    split at q1
    · rename_i hc
      obtain ⟨rfl, hl⟩ := hc
      obtain ⟨dx, fvs, e1, r⟩ := g
      refine ⟨.ref a, p2, a, dx, fvs, rfl, e1, r.noLook (Option.isNone_iff_eq_none.mp hl), A, H0, O, en, R, (Out.bind q1).good fun p q2 ws O1 H1 R1 m1 r1 => ?_⟩
      obtain ⟨o2, ho2, q3⟩ := var_ok q2
      have RF := R1.freeze
      have hio : ow.off i = false := by simp [Ow.off, hx]
      obtain ⟨v, hv, rv⟩ := RF.vals i o2 ho2 hio
      have ev : v = .ref a := by
        rw [p2] at hv
        cases hv
        rfl
      subst ev
      refine ⟨AO A (fun _ => none), o2 :: p.1, ?_, ?_, RF.there, (Out.bind q3).imp (fun d _ q4 v H2 s2 rr => ?_) fun c fs z da H2 fvs s2 q4 rf => ?_⟩
      · simp only [RepL]
        exact ⟨_, ws, rfl, rv, RepL.move (Mv.less fun b hb => hb.elim .inl fun ⟨_, z⟩ => nomatch z) _ _ r1⟩
      · exact h5.len (Out.bind q3)
      · have q5 : EndOk3 .val X.K A H0 oN oB O H D (.ret d) := q4
        exact q5 v H2 (R1.same.trans s2) (Rep.move (Mv.less fun b => .inl) _ _ rr)
      · exact z σ da H2 fvs (R1.same.trans s2) q4 (RepF.move (Mv.less fun b => .inl) _ _ rf)
    · exact q1.elim
  | _ => exact q1.elim
end
theorem nn_retMX {i : Nat} {c m : String} {f : List D → Res D} {a : XA} : NoNx (retMX i c m f a) := fun e e' h => by
  unfold retMX at h
  obtain ⟨o, _, h⟩ := leaf_bind h
  split at h
  · split at h
    · obtain ⟨_, _, h⟩ := leaf_bind h
      obtain ⟨_, _, h⟩ := leaf_bind h
      obtain ⟨_, _, h⟩ := leaf_bind h
      cases h
    · cases h
  · cases h
end Py
namespace Py
def b_is_integer : SM :=
  (ret (andE (un (oisi CS [.int]) (var 0)) (un onb (un (oisi CS [.bl]) (var 0)))))
def m_is_integer : List D → Res D := fn 1 1 b_is_integer
def b_is_inputs : SM :=
  (ret (andE (call m_is_integer (argC (var 0) argN)) (Py.chain ole ole (cst (.int 1)) (var 0) (cst (.int 3)))))
def m_is_inputs : List D → Res D := fn 1 1 b_is_inputs
def b_as_tuple : SM :=
  (seq (ite (tst (un (oisi CS [.lst, .tup]) (var 0))) (ret (un btuple (var 0))) skip)
  (ret (cst .non)))
def m_as_tuple : List D → Res D := fn 1 1 b_as_tuple
def b_is_below : SM :=
  (ret (andE (call m_is_integer (argC (var 0) argN)) (Py.chain ole olt (cst (.int 0)) (var 0) (var 1))))
def m_is_below : List D → Res D := fn 2 2 b_is_below
def b_is_line : SM :=
  (seq (ite (orT (notT (tst (un (oisi CS [.tup]) (var 0)))) (tst (bin Py.one (un blen (var 0)) (var 1)))) (ret (cst (.bl false))) skip)
  (ret (un ball (lcE (iseq (var 0)) [3] (gnm 3) yes (call m_is_below (argC (var 3) (argC (var 2) argN)))))))
def m_is_line : List D → Res D := fn 3 4 b_is_line
def b_right_nexts : SM :=
  (seq (asg (gnm 2) (call m_as_tuple (argC (var 0) argN)))
  (seq (ite (notT (tst (var 2))) (rais "InvalidMachine" ["part", "place"] (argC (cst (.str "nexts")) (argC (cst (.int 0)) argN))) skip)
  (seq (for_ (ienum (var 2)) (gtup [(gnm 3), (gnm 4)]) (ite (notT (tst (call m_is_line (argC (var 4) (argC (var 1) (argC (un blen (var 2)) argN)))))) (rais "InvalidMachine" ["part", "place"] (argC (cst (.str "nexts")) (argC (var 3) argN))) skip))
  (ret (var 2)))))
def m_right_nexts : List D → Res D := fn 2 5 b_right_nexts
def b_right_outs : SM :=
  (seq (asg (gnm 3) (call m_as_tuple (argC (var 0) argN)))
  (seq (ite (tst (un oisN (var 3))) (rais "InvalidMachine" ["part", "place"] (argC (cst (.str "outs")) (argC (cst (.int 0)) argN))) skip)
  (seq (asg (gnm 4) (bin bmin2 (un blen (var 3)) (var 2)))
  (seq (for_ (irng1 (var 4)) (gnm 5) (ite (notT (tst (call m_is_line (argC (bin oidx (var 3) (var 5)) (argC (var 1) (argC (cst (.int 2)) argN)))))) (rais "InvalidMachine" ["part", "place"] (argC (cst (.str "outs")) (argC (var 5) argN))) skip))
  (seq (ite (tst (bin Py.one (un blen (var 3)) (var 2))) (rais "InvalidMachine" ["part", "place"] (argC (cst (.str "outs")) (argC (var 4) argN))) skip)
  (ret (var 3)))))))
def m_right_outs : List D → Res D := fn 3 6 b_right_outs
def b_Machine_init : SM :=
  (seq (ite (notT (tst (call m_is_inputs (argC (var 1) argN)))) (rais "InvalidMachine" ["part", "place"] (argC (cst (.str "inputs")) (argC (cst (.int 0)) argN))) skip)
  (seq (asg (gnm 4) (bin oshl (cst (.int 1)) (var 1)))
  (seq (setF 0 ["Machine"] "inputs" (var 1))
  (seq (setF 0 ["Machine"] "nexts" (call m_right_nexts (argC (var 2) (argC (var 4) argN))))
  (setF 0 ["Machine"] "outs" (call m_right_outs (argC (var 3) (argC (var 4) (argC (un blen (un (oattr ["Machine"] "nexts") (var 0))) argN)))))))))
def m_Machine : List D → Res D := made 4 5 "Machine" b_Machine_init
def b__law_take : SM :=
  (seq (setL 0 (cst (.int 3)) (bin oadd (bin oidx (var 0) (cst (.int 3))) (cst (.int 1))))
  (seq (ite (andT (tst (bin oeq (bin oidx (var 0) (cst (.int 2))) (cst (.int 0)))) (tst (bin olt (bin oidx (var 0) (cst (.int 1))) (un blenC (bin oidx (var 0) (cst (.int 0))))))) (seq (asg (gnm 2) (bin oidxC (bin oidx (var 0) (cst (.int 0))) (bin oidx (var 0) (cst (.int 1)))))
  (seq (setL 0 (cst (.int 1)) (bin oadd (bin oidx (var 0) (cst (.int 1))) (cst (.int 1))))
  (seq (ite (tst (bin oge (var 2) (bin opow (cst (.int 10)) (cst (.int 18))))) (setL 0 (cst (.int 2)) (var 2)) skip)
  (setL 0 (cst (.int 4)) (bin omod (un bint (bin oadd (bin omul (bin oidx (var 0) (cst (.int 4))) (cst (.int 48271))) (var 2))) (cst (.int 2147483647))))))) skip)
  (seq (ite (tst (bin ogt (bin oidx (var 0) (cst (.int 2))) (cst (.int 0)))) (seq (asg (gnm 3) (bin omod (un bint (bin oidx (var 0) (cst (.int 2)))) (var 1)))
  (seq (setL 0 (cst (.int 2)) (bin ofdiv (bin oidx (var 0) (cst (.int 2))) (var 1)))
  (retB (var 3)))) skip)
  (seq (setL 0 (cst (.int 4)) (bin omod (un bint (bin oadd (bin oadd (bin omul (bin oidx (var 0) (cst (.int 4))) (cst (.int 40692))) (bin omul (bin oidx (var 0) (cst (.int 3))) (cst (.int 69621)))) (cst (.int 7)))) (cst (.int 2147483399))))
  (seq (asg (gnm 4) (bin omod (un bint (bin omul (bin oidx (var 0) (cst (.int 4))) (bin oidx (var 0) (cst (.int 4))))) (cst (.int 1999999973))))
  (retB (bin omod (un bint (bin ofdiv (var 4) (cst (.int 64)))) (var 1))))))))
abbrev m_law_take : List D → Res D := pickF true
def b__law_machine : SM :=
  (seq (asg (gnm 2) (call m_law_take (argC (var 0) (argC (cst (.int 4)) argN))))
  (seq (asg (gnm 3) (bin oidx (tupE (argC (cst (.int 1)) (argC (cst (.int 1)) (argC (cst (.int 2)) (argC (cst (.int 3)) (argC (cst (.int 4)) (argC (cst (.int 5)) (argC (cst (.int 6)) argN)))))))) (call m_law_take (argC (var 0) (argC (cst (.int 7)) argN)))))
  (seq (asg (gnm 4) (lcE (irng1 (var 3)) [12] (gnm 12) yes (un btuple (lcE (irng1 (var 1)) [6] (gnm 6) yes (call m_law_take (argC (var 0) (argC (cst (.int 2)) argN)))))))
  (seq (ite (tst (bin olt (var 2) (cst (.int 3)))) (asg (gnm 4) (lcE (irng1 (var 3)) [12] (gnm 12) yes (bin oidx (var 4) (cst (.int 0))))) skip)
  (seq (ite (tst (bin oeq (var 2) (cst (.int 2)))) (seq (asg (gnm 5) (call m_law_take (argC (var 0) (argC (var 3) argN))))
  (seq (asg (gnm 6) (call m_law_take (argC (var 0) (argC (var 1) argN))))
  (setL 4 (var 5) (bin oadd (bin oadd (slc (bin oidx (var 4) (var 5)) none (some (var 6))) (tupE (argC (bin osub (cst (.int 1)) (bin oidx (bin oidx (var 4) (var 5)) (var 6))) argN))) (slc (bin oidx (var 4) (var 5)) (some (bin oadd (var 6) (cst (.int 1)))) none))))) skip)
  (seq (asg (gnm 7) (lrngE (irng1 (var 3))))
  (seq (for_ (irng1 (bin oidx (tupE (argC (cst (.int 0)) (argC (cst (.int 0)) (argC (cst (.int 1)) (argC (cst (.int 2)) (argC (cst (.int 5)) (argC (bin osub (cst (.int 40)) (var 3)) argN))))))) (call m_law_take (argC (var 0) (argC (cst (.int 6)) argN))))) (gnm 8) (app 7 (call m_law_take (argC (var 0) (argC (var 3) argN)))))
  (seq (asg (gnm 9) (lstE argN))
  (seq (for_ (irng1 (un blen (var 7))) (gnm 8) (app 9 (un btuple (lcE (irng1 (var 1)) [6] (gnm 6) yes (cst (.int 0))))))
  (seq (asg (gnm 10) (bin oidx (tupE (argC (cst (.int 1)) (argC (var 3) (argC (un blen (var 7)) argN)))) (call m_law_take (argC (var 0) (argC (cst (.int 3)) argN)))))
  (seq (ite (tst (bin olt (var 2) (cst (.int 2)))) (for_ (irng1 (un blen (var 7))) (gnm 8) (setL 9 (var 8) (un btuple (lcE (irng1 (var 1)) [6] (gnm 6) yes (call m_law_take (argC (var 0) (argC (var 10) argN))))))) (seq (asg (gnm 11) (lstE argN))
  (seq (for_ (irng1 (var 3)) (gnm 12) (app 11 (lcE (irng1 (var 1)) [6] (gnm 6) yes (call m_law_take (argC (var 0) (argC (var 3) argN))))))
  (seq (asg (gnm 13) (lstE argN))
  (seq (for_ (irng1 (var 3)) (gnm 12) (app 13 (lcE (irng1 (un blen (var 7))) [8] (gnm 8) (tst (bin oeq (bin oidx (var 7) (var 8)) (var 12))) (var 8))))
  (for_ (irng1 (un blen (var 7))) (gnm 8) (setL 9 (var 8) (un btuple (lcE (iseq (bin oidx (var 11) (bin oidx (var 7) (var 8)))) [14] (gnm 14) yes (bin oidx (bin oidx (var 13) (var 14)) (call m_law_take (argC (var 0) (argC (un blen (bin oidx (var 13) (var 14))) argN)))))))))))))
  (ret (tupE (argC (var 9) (argC (lcE (iseq (var 7)) [12] (gnm 12) yes (bin oidx (var 4) (var 12))) argN)))))))))))))))
def m_law_machine : List D → Res D := fn 2 15 b__law_machine
def b__law_bit : SM :=
  (seq (asg (gnm 2) (lcE (irng1 (un (oattr ["Row", "Machine"] "inputs") (var 0))) [4] (gnm 4) yes (bin oand (bin ofdiv (var 1) (bin oidx (tupE (argC (cst (.int 1)) (argC (cst (.int 2)) (argC (cst (.int 4)) argN)))) (var 4))) (cst (.int 1)))))
  (seq (for_ (iseq (un (oattr ["Row"] "deeds") (var 0))) (gnm 3) (ite (tst (bin oeq (bin oidx (var 3) (cst (.int 0))) (cst (.str "zero")))) (app 2 (cst (.int 0))) (ite (tst (bin oeq (bin oidx (var 3) (cst (.int 0))) (cst (.str "ones")))) (app 2 (cst (.int 1))) (ite (tst (bin oeq (bin oidx (var 3) (cst (.int 0))) (cst (.str "not")))) (app 2 (bin osub (cst (.int 1)) (bin oidx (var 2) (bin oidx (var 3) (cst (.int 1)))))) (ite (tst (bin oeq (bin oidx (var 3) (cst (.int 0))) (cst (.str "and")))) (app 2 (bin oand (bin oidx (var 2) (bin oidx (var 3) (cst (.int 1)))) (bin oidx (var 2) (bin oidx (var 3) (cst (.int 2)))))) (ite (tst (bin oeq (bin oidx (var 3) (cst (.int 0))) (cst (.str "or")))) (app 2 (bin oor (bin oidx (var 2) (bin oidx (var 3) (cst (.int 1)))) (bin oidx (var 2) (bin oidx (var 3) (cst (.int 2)))))) (app 2 (bin oxor (bin oidx (var 2) (bin oidx (var 3) (cst (.int 1)))) (bin oidx (var 2) (bin oidx (var 3) (cst (.int 2))))))))))))
  (ret (bin oidx (var 2) (un (oattr ["Row"] "out") (var 0))))))
def m_law_bit : List D → Res D := fn 2 5 b__law_bit
def b__law_integer : SM :=
  (ret (andE (un (oisi CS [.int]) (var 0)) (un onb (un (oisi CS [.bl]) (var 0)))))
def m_law_integer : List D → Res D := fn 1 1 b__law_integer
def b__law_numbers : SM :=
  (seq (for_ (iseq (var 0)) (gnm 2) (ite (orT (notT (tst (call m_law_integer (argC (var 2) argN)))) (orT (tst (bin olt (var 2) (cst (.int 0)))) (tst (bin oge (var 2) (var 1))))) (ret (cst (.bl false))) skip))
  (ret (cst (.bl true))))
def m_law_numbers : List D → Res D := fn 2 3 b__law_numbers
def b__law_good_row : SM :=
  (seq (ite (orT (notT (tst (un (oisi CS [(.cls "Row")]) (var 0)))) (orT (notT (tst (call m_law_integer (argC (un (oattr ["Row", "Machine"] "inputs") (var 0)) argN)))) (tst (bin Py.one (un (oattr ["Row", "Machine"] "inputs") (var 0)) (var 1))))) (ret (cst (.bl false))) skip)
  (seq (ite (orT (notT (tst (un (oisi CS [.tup]) (un (oattr ["Row"] "deeds") (var 0))))) (tst (bin ogt (un blen (un (oattr ["Row"] "deeds") (var 0))) (cst (.int 10000))))) (ret (cst (.bl false))) skip)
  (seq (asg (gnm 2) (dicS [((.str "zero"), (.int 1)), ((.str "ones"), (.int 1)), ((.str "not"), (.int 2)), ((.str "and"), (.int 3)), ((.str "or"), (.int 3)), ((.str "xor"), (.int 3))]))
  (seq (asg (gnm 3) (var 1))
  (seq (for_ (iseq (un (oattr ["Row"] "deeds") (var 0))) (gnm 4) (seq (ite (orT (notT (tst (un (oisi CS [.tup]) (var 4)))) (orT (tst (bin oeq (un blen (var 4)) (cst (.int 0)))) (orT (notT (tst (un (oisi CS [.str]) (bin oidx (var 4) (cst (.int 0)))))) (tst (bin onotin (bin oidx (var 4) (cst (.int 0))) (var 2)))))) (ret (cst (.bl false))) skip)
  (seq (ite (orT (tst (bin Py.one (un blen (var 4)) (bin oidx (var 2) (bin oidx (var 4) (cst (.int 0)))))) (notT (tst (call m_law_numbers (argC (slc (var 4) (some (cst (.int 1))) none) (argC (var 3) argN)))))) (ret (cst (.bl false))) skip)
  (asg (gnm 3) (bin oadd (var 3) (cst (.int 1)))))))
  (ret (call m_law_numbers (argC (lstE (argC (un (oattr ["Row"] "out") (var 0)) argN)) (argC (var 3) argN)))))))))
def m_law_good_row : List D → Res D := fn 2 5 b__law_good_row
def b__law_one_state : SM :=
  (seq (asg (gnm 2) (dic1 false (cst (.int 0)) (cst (.bl true))))
  (seq (asg (gnm 3) (lstE (argC (cst (.int 0)) argN)))
  (seq (for_ (irng1 (un blen (var 0))) (gnm 4) (ite (tst (bin olt (var 4) (un blen (var 3)))) (seq (ite (tst (bin Py.one (bin oidx (var 1) (bin oidx (var 3) (var 4))) (bin oidx (var 1) (cst (.int 0))))) (ret (cst (.bl false))) skip)
  (for_ (iseq (bin oidx (var 0) (bin oidx (var 3) (var 4)))) (gnm 5) (ite (tst (bin onotin (var 5) (var 2))) (seq (setL 2 (var 5) (cst (.bl true)))
  (app 3 (var 5))) skip))) skip))
  (ret (cst (.bl true))))))
def m_law_one_state : List D → Res D := fn 2 6 b__law_one_state
def b__law_right : SM :=
  (seq (ite (notT (tst (call m_law_one_state (argC (var 2) (argC (var 3) argN))))) (ret (un oisN (var 0))) skip)
  (seq (ite (notT (tst (call m_law_good_row (argC (var 0) (argC (var 1) argN))))) (ret (cst (.bl false))) skip)
  (seq (for_ (irng1 (un blen (bin oidx (var 3) (cst (.int 0))))) (gnm 4) (ite (tst (bin Py.one (call m_law_bit (argC (var 0) (argC (var 4) argN))) (bin oidx (bin oidx (var 3) (cst (.int 0))) (var 4)))) (ret (cst (.bl false))) skip))
  (ret (cst (.bl true))))))
def m_law_right : List D → Res D := fn 4 5 b__law_right
def b_Builder_init : SM :=
  (seq (setF 0 ["Builder"] "inputs" (var 1))
  (seq (setFN 0 ["Builder"] "deeds" (lstE argN))
  (setFN 0 ["Builder"] "numbers" (dic0 true))))
def m_Builder : List D → Res D := made 2 2 "Builder" b_Builder_init
def b_Builder_put : SM :=
  (seq (ite (tst (bin onotin (var 1) (un (oattr ["Builder"] "numbers") (var 0)))) (seq (setFD 0 "Builder" "numbers" (var 1) (bin oadd (un (oattr ["Builder"] "inputs") (var 0)) (un blen (un (oattr ["Builder"] "deeds") (var 0)))))
  (appF 0 "Builder" "deeds" (var 1))) skip)
  (retL (upX (bin oidx (un (oattr ["Builder"] "numbers") (var 0)) (var 1)))))
def m_Builder_put : List D → Res D := fnL 2 2 b_Builder_put
def b_Builder_ones : SM :=
  (retL (lendM "Builder" "put" 0 m_Builder_put (xaC (upX (tupE (argC (cst (.str "ones")) argN))) xaN)))
def m_Builder_ones : List D → Res D := fnL 1 1 b_Builder_ones
def b_are_values : SM :=
  (ret (un ball (lcE (iseq (var 0)) [2] (gnm 2) yes (call m_is_below (argC (var 2) (argC (var 1) argN))))))
def m_are_values : List D → Res D := fn 2 3 b_are_values
def b_is_count_deed : SM :=
  (seq (ite (tst (bin Py.one (un blen (var 0)) (cst (.int 4)))) (ret (cst (.bl false))) skip)
  (seq (asg (gtup [(gnm 2), (gnm 3), (gnm 4)]) (slc (var 0) (some (cst (.int 1))) none))
  (seq (ite (orT (notT (tst (call m_is_integer (argC (var 2) argN)))) (orT (tst (bin onotin (var 2) (tupE (argC (cst (.int 2)) (argC (cst (.int 3)) (argC (cst (.int 5)) argN)))))) (notT (tst (call m_is_below (argC (var 3) (argC (var 2) argN))))))) (ret (cst (.bl false))) skip)
  (ret (andE (un (oisi CS [.tup]) (var 4)) (andE (Py.chain ole ole (cst (.int 1)) (un blen (var 4)) (cst (.int 4))) (call m_are_values (argC (var 4) (argC (var 1) argN)))))))))
def m_is_count_deed : List D → Res D := fn 2 5 b_is_count_deed
def b_is_deed : SM :=
  (seq (ite (orT (notT (tst (un (oisi CS [.tup]) (var 0)))) (orT (notT (tst (var 0))) (notT (tst (un (oisi CS [.str]) (bin oidx (var 0) (cst (.int 0)))))))) (ret (cst (.bl false))) skip)
  (seq (ite (tst (bin oeq (bin oidx (var 0) (cst (.int 0))) (cst (.str "count")))) (ret (call m_is_count_deed (argC (var 0) (argC (var 1) argN)))) skip)
  (seq (ite (orT (tst (un (onothas tab_SIZES) (bin oidx (var 0) (cst (.int 0))))) (tst (bin Py.one (un blen (var 0)) (bin oadd (un (olook tab_SIZES) (bin oidx (var 0) (cst (.int 0)))) (cst (.int 1)))))) (ret (cst (.bl false))) skip)
  (ret (call m_are_values (argC (slc (var 0) (some (cst (.int 1))) none) (argC (var 1) argN)))))))
def m_is_deed : List D → Res D := fn 2 2 b_is_deed
def b_Row_init : SM :=
  (seq (ite (notT (tst (call m_is_inputs (argC (var 1) argN)))) (rais "InvalidRow" ["part", "place"] (argC (cst (.str "inputs")) (argC (cst (.int 0)) argN))) skip)
  (seq (asg (gnm 4) (call m_as_tuple (argC (var 2) argN)))
  (seq (ite (tst (un oisN (var 4))) (rais "InvalidRow" ["part", "place"] (argC (cst (.str "deeds")) (argC (cst (.int 0)) argN))) skip)
  (seq (for_ (ienum (var 4)) (gtup [(gnm 5), (gnm 6)]) (ite (notT (tst (call m_is_deed (argC (var 6) (argC (bin oadd (var 1) (var 5)) argN))))) (rais "InvalidRow" ["part", "place"] (argC (cst (.str "deeds")) (argC (var 5) argN))) skip))
  (seq (ite (notT (tst (call m_is_below (argC (var 3) (argC (bin oadd (var 1) (un blen (var 4))) argN))))) (rais "InvalidRow" ["part", "place"] (argC (cst (.str "out")) (argC (cst (.int 0)) argN))) skip)
  (seq (setF 0 ["Row"] "inputs" (var 1))
  (seq (setF 0 ["Row"] "deeds" (var 4))
  (setF 0 ["Row"] "out" (var 3)))))))))
def m_Row : List D → Res D := made 4 7 "Row" b_Row_init
def b_values_within : SM :=
  (seq (ite (tst (bin oeq (bin oidx (var 0) (cst (.int 0))) (cst (.str "count")))) (ret (bin oidx (var 0) (cst (.int 3)))) skip)
  (ret (slc (var 0) (some (cst (.int 1))) none)))
def m_values_within : List D → Res D := fn 1 1 b_values_within
def b_with_values : SM :=
  (seq (ite (tst (bin oeq (bin oidx (var 0) (cst (.int 0))) (cst (.str "count")))) (ret (tupE (argS (slc (var 0) none (some (cst (.int 3)))) (argC (un btuple (var 1)) argN)))) skip)
  (ret (tupE (argC (bin oidx (var 0) (cst (.int 0))) (argS (var 1) argN)))))
def m_with_values : List D → Res D := fn 2 2 b_with_values
def b_Builder_row : SM :=
  (seq (asg (gnm 2) (dic1 false (var 1) (cst (.bl true))))
  (seq (for_ (irng3 (bin osub (bin oadd (un (oattr ["Builder"] "inputs") (var 0)) (un blen (un (oattr ["Builder"] "deeds") (var 0)))) (cst (.int 1))) (bin osub (un (oattr ["Builder"] "inputs") (var 0)) (cst (.int 1))) (un oneg (cst (.int 1)))) (gnm 3) (ite (tst (bin oin (var 3) (var 2))) (for_ (iseq (call m_values_within (argC (bin oidx (un (oattr ["Builder"] "deeds") (var 0)) (bin osub (var 3) (un (oattr ["Builder"] "inputs") (var 0)))) argN))) (gnm 4) (setL 2 (var 4) (cst (.bl true)))) skip))
  (seq (asg (gnm 5) (dcE false (irng1 (un (oattr ["Builder"] "inputs") (var 0))) [9] (gnm 9) yes (var 9) (var 9)))
  (seq (asg (gnm 6) (lstE argN))
  (seq (for_ (ienum (un (oattr ["Builder"] "deeds") (var 0))) (gtup [(gnm 7), (gnm 8)]) (ite (tst (bin oin (bin oadd (un (oattr ["Builder"] "inputs") (var 0)) (var 7)) (var 2))) (seq (setL 5 (bin oadd (un (oattr ["Builder"] "inputs") (var 0)) (var 7)) (bin oadd (un (oattr ["Builder"] "inputs") (var 0)) (un blen (var 6))))
  (app 6 (call m_with_values (argC (var 8) (argC (lcE (iseq (call m_values_within (argC (var 8) argN))) [4] (gnm 4) yes (bin oidx (var 5) (var 4))) argN))))) skip))
  (ret (call m_Row (argC (un (oattr ["Builder"] "inputs") (var 0)) (argC (un btuple (var 6)) (argC (bin oidx (var 5) (var 1)) argN))))))))))
def m_Builder_row : List D → Res D := fn 2 10 b_Builder_row
def b_numbered : SM :=
  (seq (asg (gnm 1) (dic0 true))
  (seq (asg (gnm 2) (lstE argN))
  (seq (for_ (iseq (var 0)) (gnm 3) (seq (ite (tst (bin onotin (var 3) (var 1))) (setL 1 (var 3) (un blen (var 1))) skip)
  (app 2 (bin oidx (var 1) (var 3)))))
  (ret (var 2)))))
def m_numbered : List D → Res D := fn 1 4 b_numbered
def b_state_classes : SM :=
  (seq (asg (gnm 1) (call m_numbered (argC (un blist (un (oattr ["Machine"] "outs") (var 0))) argN)))
  (while_ (tst (cst (.bl true))) (seq (asg (gnm 2) (lstE argN))
  (seq (for_ (ienum (un (oattr ["Machine"] "nexts") (var 0))) (gtup [(gnm 3), (gnm 4)]) (app 2 (tupE (argC (bin oidx (var 1) (var 3)) (argC (un btuple (lcE (iseq (var 4)) [6] (gnm 6) yes (bin oidx (var 1) (var 6)))) argN)))))
  (seq (asg (gnm 5) (call m_numbered (argC (var 2) argN)))
  (seq (ite (tst (bin oeq (un bmaxL (var 5)) (un bmaxL (var 1)))) (ret (var 1)) skip)
  (asg (gnm 1) (var 5))))))))
def m_state_classes : List D → Res D := fn 1 7 b_state_classes
def b_least_machine : SM :=
  (seq (asg (gnm 1) (call m_state_classes (argC (var 0) argN)))
  (seq (asg (gnm 2) (lstE (argC (cst (.int 0)) argN)))
  (seq (asg (gnm 3) (dic1 false (bin oidx (var 1) (cst (.int 0))) (cst (.int 0))))
  (seq (asg (gnm 4) (lstE argN))
  (seq (while_ (tst (bin olt (un blen (var 4)) (un blen (var 2)))) (seq (asg (gnm 5) (lstE argN))
  (seq (for_ (iseq (bin oidx (un (oattr ["Machine"] "nexts") (var 0)) (bin oidx (var 2) (un blen (var 4))))) (gnm 6) (seq (ite (tst (bin onotin (bin oidx (var 1) (var 6)) (var 3))) (seq (setL 3 (bin oidx (var 1) (var 6)) (un blen (var 2)))
  (app 2 (var 6))) skip)
  (app 5 (bin oidx (var 3) (bin oidx (var 1) (var 6))))))
  (app 4 (un btuple (var 5))))))
  (ret (call m_Machine (argC (un (oattr ["Row", "Machine"] "inputs") (var 0)) (argC (var 4) (argC (lcE (iseq (var 2)) [7] (gnm 7) yes (bin oidx (un (oattr ["Machine"] "outs") (var 0)) (var 7))) argN))))))))))
def m_least_machine : List D → Res D := fn 1 8 b_least_machine
def b_Builder_zero : SM :=
  (retL (lendM "Builder" "put" 0 m_Builder_put (xaC (upX (tupE (argC (cst (.str "zero")) argN))) xaN)))
def m_Builder_zero : List D → Res D := fnL 1 1 b_Builder_zero
def b_Builder_opposite : SM :=
  (seq (iteX (tstX (binX oeq (upX (var 1)) (lendM "Builder" "zero" 0 m_Builder_zero xaN))) (retL (lendM "Builder" "ones" 0 m_Builder_ones xaN)) skip)
  (seq (iteX (tstX (binX oeq (upX (var 1)) (lendM "Builder" "ones" 0 m_Builder_ones xaN))) (retL (lendM "Builder" "zero" 0 m_Builder_zero xaN)) skip)
  (seq (ite (andT (tst (bin oge (var 1) (un (oattr ["Builder"] "inputs") (var 0)))) (tst (bin oeq (bin oidx (bin oidx (un (oattr ["Builder"] "deeds") (var 0)) (bin osub (var 1) (un (oattr ["Builder"] "inputs") (var 0)))) (cst (.int 0))) (cst (.str "not"))))) (retL (upX (bin oidx (bin oidx (un (oattr ["Builder"] "deeds") (var 0)) (bin osub (var 1) (un (oattr ["Builder"] "inputs") (var 0)))) (cst (.int 1))))) skip)
  (retL (lendM "Builder" "put" 0 m_Builder_put (xaC (upX (tupE (argC (cst (.str "not")) (argC (var 1) argN)))) xaN))))))
def m_Builder_opposite : List D → Res D := fnL 2 2 b_Builder_opposite
def b_Builder_both_of : SM :=
  (seq (iteX (orX (upT (tst (bin oeq (var 1) (var 2)))) (tstX (binX oeq (upX (var 2)) (lendM "Builder" "ones" 0 m_Builder_ones xaN)))) (retL (upX (var 1))) skip)
  (seq (iteX (tstX (binX oeq (upX (var 1)) (lendM "Builder" "ones" 0 m_Builder_ones xaN))) (retL (upX (var 2))) skip)
  (seq (iteX (orX (tstX (binX oeq (upX (var 1)) (lendM "Builder" "zero" 0 m_Builder_zero xaN))) (orX (tstX (binX oeq (upX (var 2)) (lendM "Builder" "zero" 0 m_Builder_zero xaN))) (tstX (binX oeq (upX (var 1)) (lendM "Builder" "opposite" 0 m_Builder_opposite (xaC (upX (var 2)) xaN)))))) (retL (lendM "Builder" "zero" 0 m_Builder_zero xaN)) skip)
  (retL (lendM "Builder" "put" 0 m_Builder_put (xaC (upX (tupE (argC (cst (.str "and")) (argC (bin bmin2 (var 1) (var 2)) (argC (bin bmax2 (var 1) (var 2)) argN))))) xaN))))))
def m_Builder_both_of : List D → Res D := fnL 3 3 b_Builder_both_of
def b_Builder_either_of : SM :=
  (seq (iteX (orX (upT (tst (bin oeq (var 1) (var 2)))) (tstX (binX oeq (upX (var 2)) (lendM "Builder" "zero" 0 m_Builder_zero xaN)))) (retL (upX (var 1))) skip)
  (seq (iteX (tstX (binX oeq (upX (var 1)) (lendM "Builder" "zero" 0 m_Builder_zero xaN))) (retL (upX (var 2))) skip)
  (seq (iteX (orX (tstX (binX oeq (upX (var 1)) (lendM "Builder" "ones" 0 m_Builder_ones xaN))) (orX (tstX (binX oeq (upX (var 2)) (lendM "Builder" "ones" 0 m_Builder_ones xaN))) (tstX (binX oeq (upX (var 1)) (lendM "Builder" "opposite" 0 m_Builder_opposite (xaC (upX (var 2)) xaN)))))) (retL (lendM "Builder" "ones" 0 m_Builder_ones xaN)) skip)
  (retL (lendM "Builder" "put" 0 m_Builder_put (xaC (upX (tupE (argC (cst (.str "or")) (argC (bin bmin2 (var 1) (var 2)) (argC (bin bmax2 (var 1) (var 2)) argN))))) xaN))))))
def m_Builder_either_of : List D → Res D := fnL 3 3 b_Builder_either_of
def b_Builder_all_of : SM :=
  (seq (asgX (gnm 2) (lendM "Builder" "ones" 0 m_Builder_ones xaN))
  (seq (for_ (iseq (var 1)) (gnm 3) (asgX (gnm 2) (lendM "Builder" "both_of" 0 m_Builder_both_of (xaC (upX (var 2)) (xaC (upX (var 3)) xaN)))))
  (retL (upX (var 2)))))
def m_Builder_all_of : List D → Res D := fnL 2 4 b_Builder_all_of
def b_Builder_letter_word : SM :=
  (retL (lendM "Builder" "all_of" 0 m_Builder_all_of (xaC (lcX [0] (irng1 (un (oattr ["Builder"] "inputs") (var 0))) [2] (gnm 2) (upT yes) (ifX (upT (tst (bin oand (bin oshr (var 1) (var 2)) (cst (.int 1))))) (upX (var 2)) (lendM "Builder" "opposite" 0 m_Builder_opposite (xaC (upX (var 2)) xaN)))) xaN)))
def m_Builder_letter_word : List D → Res D := fnL 2 3 b_Builder_letter_word
def b_written_word : SM :=
  (seq (asgX (gnm 3) (lendM "Builder" "zero" 0 m_Builder_zero xaN))
  (seq (for_ (ienum (var 2)) (gtup [(gnm 4), (gnm 5)]) (for_ (ienum (bin oidx (un (oattr ["Machine"] "outs") (var 1)) (var 4))) (gtup [(gnm 6), (gnm 7)]) (ite (tst (bin oeq (var 7) (cst (.int 1)))) (asgX (gnm 3) (lendM "Builder" "either_of" 0 m_Builder_either_of (xaC (upX (var 3)) (xaC (lendM "Builder" "both_of" 0 m_Builder_both_of (xaC (upX (var 5)) (xaC (lendM "Builder" "letter_word" 0 m_Builder_letter_word (xaC (upX (var 6)) xaN)) xaN))) xaN)))) skip)))
  (retL (upX (var 3)))))
def m_written_word : List D → Res D := fnL 3 8 b_written_word
def b_logic_row : SM :=
  (seq (asg (gnm 1) (call m_least_machine (argC (var 0) argN)))
  (seq (ite (tst (bin ogt (un blen (un (oattr ["Machine"] "nexts") (var 1))) (cst (.int 1)))) (ret (cst .non)) skip)
  (seq (asg (gnm 2) (call m_Builder (argC (un (oattr ["Row", "Machine"] "inputs") (var 1)) argN)))
  (retMX 2 "Builder" "row" m_Builder_row (xaC (lendX 2 m_written_word (xaC (upX (var 1)) (xaC (lstX (xaC (lendM "Builder" "ones" 2 m_Builder_ones xaN) xaN)) xaN))) xaN)))))
def m_logic_row : List D → Res D := fn 1 3 b_logic_row
def b__law_asked : SM :=
  (seq (asg (gnm 1) (mkp (lstE (argC (un blist (var 0)) (argC (cst (.int 0)) (argC (cst (.int 0)) (argC (cst (.int 0)) (argC (cst (.int 1)) argN))))))))
  (seq (asg (gnm 2) (bin oidx (tupE (argC (cst (.int 1)) (argC (cst (.int 1)) (argC (cst (.int 2)) (argC (cst (.int 3)) argN))))) (call m_law_take (argC (var 1) (argC (cst (.int 4)) argN)))))
  (seq (asg (gtup [(gnm 3), (gnm 4)]) (call m_law_machine (argC (var 1) (argC (bin oshl (cst (.int 1)) (var 2)) argN))))
  (seq (asg (gnm 5) (call m_Machine (argC (var 2) (argC (un blist (var 3)) (argC (un btuple (var 4)) argN)))))
  (seq (asg (gnm 6) (call m_logic_row (argC (var 5) argN)))
  (seq (ite (notT (tst (call m_law_right (argC (var 6) (argC (var 2) (argC (var 3) (argC (var 4) argN))))))) (ret (cst (.bl false))) skip)
  (seq (asg (gtup [(gnm 7), (gnm 8)]) (call m_law_machine (argC (var 1) (argC (bin oshl (cst (.int 1)) (var 2)) argN))))
  (seq (ite (notT (tst (call m_law_right (argC (call (kwc 1 [0] m_logic_row) (argC (call m_Machine (argC (var 2) (argC (un btuple (var 7)) (argC (un blist (var 8)) argN)))) argN)) (argC (var 2) (argC (var 7) (argC (var 8) argN))))))) (ret (cst (.bl false))) skip)
  (seq (asg (gnm 9) (call m_logic_row (argC (call m_Machine (argC (var 2) (argC (un btuple (var 3)) (argC (un blist (var 4)) argN)))) argN)))
  (seq (ite (orT (tst (un oisN (var 6))) (tst (un oisN (var 9)))) (ret (andE (un oisN (var 6)) (un oisN (var 9)))) skip)
  (ret (andE (call m_law_right (argC (var 9) (argC (var 2) (argC (var 3) (argC (var 4) argN))))) (andE (bin oeq (un (oattr ["Row"] "deeds") (var 9)) (un (oattr ["Row"] "deeds") (var 6))) (bin oeq (un (oattr ["Row"] "out") (var 9)) (un (oattr ["Row"] "out") (var 6))))))))))))))))
def m_law_asked : List D → Res D := fn 1 10 b__law_asked
def b_law : SM :=
  (thru (ret (call m_law_asked (argC (var 0) argN))))
def m_law : List D → Res D := fn 1 1 b_law
end Py
namespace Py
open PySem PySem.Spec PyProof.Rows L2
abbrev ow_is_integer : Ow := owS []
abbrev ow_is_inputs : Ow := owS []
abbrev ow_as_tuple : Ow := owS []
abbrev ow_is_below : Ow := owS []
abbrev ow_is_line : Ow := owS []
abbrev ow_right_nexts : Ow := owS []
abbrev ow_right_outs : Ow := owS []
abbrev ow_Machine_init : Ow := ⟨fun i => i == 0, none⟩
abbrev ow__law_take : Ow := ⟨fun i => i == 0, none⟩
abbrev ow__law_machine : Ow := owS []
abbrev ow__law_bit : Ow := owS []
abbrev ow__law_integer : Ow := owS []
abbrev ow__law_numbers : Ow := owS []
abbrev ow__law_good_row : Ow := owS []
abbrev ow__law_one_state : Ow := owS []
abbrev ow__law_right : Ow := owS []
abbrev ow_Builder_init : Ow := ⟨fun i => i == 0, none⟩
abbrev ow_Builder_put : Ow := owS [0]
abbrev ow_Builder_ones : Ow := owS [0]
abbrev ow_are_values : Ow := owS []
abbrev ow_is_count_deed : Ow := owS []
abbrev ow_is_deed : Ow := owS []
abbrev ow_Row_init : Ow := ⟨fun i => i == 0, none⟩
abbrev ow_values_within : Ow := owS []
abbrev ow_with_values : Ow := owS []
abbrev ow_Builder_row : Ow := owS []
abbrev ow_numbered : Ow := owS []
abbrev ow_state_classes : Ow := owS []
abbrev ow_least_machine : Ow := owS []
abbrev ow_Builder_zero : Ow := owS [0]
abbrev ow_Builder_opposite : Ow := owS [0]
abbrev ow_Builder_both_of : Ow := owS [0]
abbrev ow_Builder_either_of : Ow := owS [0]
abbrev ow_Builder_all_of : Ow := owS [0]
abbrev ow_Builder_letter_word : Ow := owS [0]
abbrev ow_written_word : Ow := owS [0]
abbrev ow_logic_row : Ow := owS []
abbrev ow__law_asked : Ow := owS []
abbrev ow_law : Ow := owS []
abbrev Fs (P : Program) (w : World) (K : Frag) (mg : Str → Option Value) : Prop := FactsY fa fns xfs tbs mss FILE P w K mg
section
variable [WI] {P : Program} {w : World} [HW w] {K : Frag} {mg : Str → Option Value} {base : Heap}
theorem S_InvalidMachine_init : NdefX.NScope N_InvalidMachine_init ["self", "part", "place"] ["__class__"] sc_InvalidMachine_init := NdefX.nscope_by (by decide +kernel)
theorem er_InvalidMachine (Y : Fs P w K mg) : ErrOk P w K mg base 1 "InvalidMachine" ["part", "place"] :=
  err_ok (k := 0) (self := "self") (N := N_InvalidMachine_init) (ps := ["self", "part", "place"]) (Y.err 0 12 (d := d_InvalidMachine_init) (c := "InvalidMachine") (fs := ["part", "place"])) (Y.glo 56) (Y.free 57) Y.ps rfl S_InvalidMachine_init rfl rfl rfl rfl (fun _ _ _ _ _ _ _ us hl => match us, hl with | [_, _, _], _ => rfl)
    (fun _ _ _ _ _ _ _ _ => (pss_cons (ps_ost (pv 0) (pv 1)) (pss_one (ps_ost (pv 0) (pv 2)))))
    (fun a ws H1 Dn σ h0 h1 hl hn q => fld_two (Y.err 0 12 (d := d_InvalidMachine_init) (c := "InvalidMachine") (fs := ["part", "place"])).T ((Y.err 0 12 (d := d_InvalidMachine_init) (c := "InvalidMachine") (fs := ["part", "place"])).no _ (by simp)) ((Y.err 0 12 (d := d_InvalidMachine_init) (c := "InvalidMachine") (fs := ["part", "place"])).no _ (by simp)) h0 h1 hl hn q) (fun _ _ _ _ => rfl) (fun _ _ _ _ => rfl) (fun _ _ _ _ => rfl) (fun _ _ _ _ => rfl)
theorem S_InvalidRow_init : NdefX.NScope N_InvalidRow_init ["self", "part", "place"] ["__class__"] sc_InvalidRow_init := NdefX.nscope_by (by decide +kernel)
theorem er_InvalidRow (Y : Fs P w K mg) : ErrOk P w K mg base 1 "InvalidRow" ["part", "place"] :=
  err_ok (k := 0) (self := "self") (N := N_InvalidRow_init) (ps := ["self", "part", "place"]) (Y.err 1 13 (d := d_InvalidRow_init) (c := "InvalidRow") (fs := ["part", "place"])) (Y.glo 58) (Y.free 57) Y.ps rfl S_InvalidRow_init rfl rfl rfl rfl (fun _ _ _ _ _ _ _ us hl => match us, hl with | [_, _, _], _ => rfl)
    (fun _ _ _ _ _ _ _ _ => (pss_cons (ps_ost (pv 0) (pv 1)) (pss_one (ps_ost (pv 0) (pv 2)))))
    (fun a ws H1 Dn σ h0 h1 hl hn q => fld_two (Y.err 1 13 (d := d_InvalidRow_init) (c := "InvalidRow") (fs := ["part", "place"])).T ((Y.err 1 13 (d := d_InvalidRow_init) (c := "InvalidRow") (fs := ["part", "place"])).no _ (by simp)) ((Y.err 1 13 (d := d_InvalidRow_init) (c := "InvalidRow") (fs := ["part", "place"])).no _ (by simp)) h0 h1 hl hn q) (fun _ _ _ _ => rfl) (fun _ _ _ _ => rfl) (fun _ _ _ _ => rfl) (fun _ _ _ _ => rfl)
theorem S_is_integer : FnScope N_is_integer ["value"] sc_is_integer := ⟨rfl, rfl, rfl, by decide +kernel, rfl, by decide +kernel, by decide +kernel⟩
theorem c_is_integer (Y : Fs P w K mg) : CallOk P w K mg base 1 "is_integer" d_is_integer ["value"] 1 m_is_integer :=
  def_ok (d := d_is_integer) (N := N_is_integer) (ps := ["value"]) (p := 1) (m := b_is_integer) (k := 0) (ow := ow_is_integer) (Y.def_ 0) (Y.glo 14) S_is_integer rfl rfl (by decide) (fun _ _ _ _ _ _ us hl => match us, hl with | [_], _ => rfl) (fun cdv A outer s H E T => (ss_one (s_ret (x_and (x_isi1 (cs := CS) (t := .int) rfl (kit_of_b (Y.more 5)) rfl (Y.free 3) (w_of (x_var (pv 0) rfl)) (pe_bltn rfl (Y.free 4) hv_int rfl)) (x_one (x_not (x_isi1 (cs := CS) (t := .bl) rfl (kit_of_b (Y.more 5)) rfl (Y.free 3) (w_of (x_var (pv 0) rfl)) (pe_bltn rfl (Y.free 5) hv_bool rfl))))))))
theorem S_is_inputs : FnScope N_is_inputs ["value"] sc_is_inputs := ⟨rfl, rfl, rfl, by decide +kernel, rfl, by decide +kernel, by decide +kernel⟩
theorem c_is_inputs (Y : Fs P w K mg) : CallOk P w K mg base 2 "is_inputs" d_is_inputs ["value"] 1 m_is_inputs :=
  def_ok (d := d_is_inputs) (N := N_is_inputs) (ps := ["value"]) (p := 1) (m := b_is_inputs) (k := 1) (ow := ow_is_inputs) (Y.def_ 1) (Y.glo 15) S_is_inputs rfl rfl (by decide) (fun _ _ _ _ _ _ us hl => match us, hl with | [_], _ => rfl) (fun cdv A outer s H E T => (ss_one (s_ret (x_and (x_own1 T (c_is_integer Y) (by decide) rfl (xa_cons (x_var (pv 0) rfl) xa_nil)) (x_one (x_chain y_le y_le n_le n_le (w_of x_int) (w_of (x_var (pv 0) rfl)) (w_of x_int)))))))
theorem S_as_tuple : FnScope N_as_tuple ["value"] sc_as_tuple := ⟨rfl, rfl, rfl, by decide +kernel, rfl, by decide +kernel, by decide +kernel⟩
theorem c_as_tuple (Y : Fs P w K mg) : CallOk P w K mg base 1 "as_tuple" d_as_tuple ["value"] 1 m_as_tuple :=
  def_ok (d := d_as_tuple) (N := N_as_tuple) (ps := ["value"]) (p := 1) (m := b_as_tuple) (k := 0) (ow := ow_as_tuple) (Y.def_ 2) (Y.glo 16) S_as_tuple rfl rfl (by decide) (fun _ _ _ _ _ _ us hl => match us, hl with | [_], _ => rfl) (fun cdv A outer s H E T => (ss_cons (s_if (t_tst (w_of (x_isiT (cs := CS) (ts := [.lst, .tup]) rfl (kit_of_b (Y.more 5)) rfl (Y.free 3) (w_of (x_var (pv 0) rfl)) (TyL.cons (t := .lst) (pe_bltn rfl (Y.free 0) hv_list rfl) (TyL.cons (t := .tup) (pe_bltn rfl (Y.free 1) hv_tuple rfl) TyL.nil rfl) rfl) (by decide))) (by intro _; rfl)) (ss_one (s_ret (x_t1 v_tuple n_tuple rfl (Y.free 1) hv_tuple (w_of (x_var (pv 0) rfl))))) ss_nil)
  (ss_one (s_ret x_non))))
theorem S_is_below : FnScope N_is_below ["value", "limit"] sc_is_below := ⟨rfl, rfl, rfl, by decide +kernel, rfl, by decide +kernel, by decide +kernel⟩
theorem c_is_below (Y : Fs P w K mg) : CallOk P w K mg base 2 "is_below" d_is_below ["value", "limit"] 2 m_is_below :=
  def_ok (d := d_is_below) (N := N_is_below) (ps := ["value", "limit"]) (p := 2) (m := b_is_below) (k := 1) (ow := ow_is_below) (Y.def_ 3) (Y.glo 17) S_is_below rfl rfl (by decide) (fun _ _ _ _ _ _ us hl => match us, hl with | [_, _], _ => rfl) (fun cdv A outer s H E T => (ss_one (s_ret (x_and (x_own1 T (c_is_integer Y) (by decide) rfl (xa_cons (x_var (pv 0) rfl) xa_nil)) (x_one (x_chain y_le y_lt n_le n_lt (w_of x_int) (w_of (x_var (pv 0) rfl)) (w_of (x_var (pv 1) rfl))))))))
theorem S_is_line : FnScope N_is_line ["value", "many", "limit"] sc_is_line := ⟨rfl, rfl, rfl, by decide +kernel, rfl, by decide +kernel, by decide +kernel⟩
theorem c_is_line (Y : Fs P w K mg) : CallOk P w K mg base 3 "is_line" d_is_line ["value", "many", "limit"] 3 m_is_line :=
  def_ok (d := d_is_line) (N := N_is_line) (ps := ["value", "many", "limit"]) (p := 3) (m := b_is_line) (k := 2) (ow := ow_is_line) (Y.def_ 4) (Y.glo 18) S_is_line rfl rfl (by decide) (fun _ _ _ _ _ _ us hl => match us, hl with | [_, _, _], _ => rfl) (fun cdv A outer s H E T => (ss_cons (s_if (PW.pt (t_or (t_not (t_tst (w_of (x_isi1 (cs := CS) (t := .tup) rfl (kit_of_b (Y.more 5)) rfl (Y.free 3) (w_of (x_var (pv 0) rfl)) (pe_bltn rfl (Y.free 1) hv_tuple rfl))) (by intro _; rfl))) (t_or1 (t_cmp T.ne n_ne b_ne (w_of (x_b1 v_len n_len rfl (Y.free 2) hv_len (w_of (x_var (pv 0) rfl)))) (w_of (x_var (pv 1) rfl)) rfl)))) (ss_one (s_ret x_bl)) ss_nil)
  (ss_one (s_ret (x_b1 (v_all T.calm) n_all rfl (Y.free 7) hv_all (w_of (e_of (f_lc (own := [("member", 3)]) T (i_gr (i_seq (x_var (pv 0) rfl))) (blkOk_by (N := N_is_line) (sc := sc_is_line) (own := [("member", 3)]) (by decide +kernel)) (fun _ _ _ _ _ T1 => (g_nm (pg_name (i := 3) T1.nd rfl (Or.inl rfl)) rfl)) (fun _ _ _ _ _ T1 => ts_nil) (fun _ _ _ _ _ T1 => (x_own1 T1 (c_is_below Y) (by decide) rfl (xa_cons (x_var (pv 3) rfl) (xa_cons (x_var (pv 2) rfl) xa_nil)))) (by decide)))))))))
theorem S_right_nexts : FnScope N_right_nexts ["value", "letters"] sc_right_nexts := ⟨rfl, rfl, rfl, by decide +kernel, rfl, by decide +kernel, by decide +kernel⟩
theorem c_right_nexts (Y : Fs P w K mg) : CallOk P w K mg base 4 "right_nexts" d_right_nexts ["value", "letters"] 2 m_right_nexts :=
  def_ok (d := d_right_nexts) (N := N_right_nexts) (ps := ["value", "letters"]) (p := 2) (m := b_right_nexts) (k := 3) (ow := ow_right_nexts) (Y.def_ 5) (Y.glo 19) S_right_nexts rfl rfl (by decide) (fun _ _ _ _ _ _ us hl => match us, hl with | [_, _], _ => rfl) (fun cdv A outer s H E T => (ss_cons (s_set (ps_set (i := 2) T.nd rfl (Or.inl rfl) (x_own1 T (c_as_tuple Y) (by decide) rfl (xa_cons (x_var (pv 0) rfl) xa_nil))) rfl)
  (ss_cons (s_if (t_not (t_tst (w_of (x_var (pv 2) rfl)) (by intro _; rfl))) (ss_one (s_raise T (er_InvalidMachine Y) (by decide) rfl (xa_cons (x_str (s := "nexts")) (xa_cons x_int xa_nil)))) ss_nil)
  (ss_cons (s_for T.po T.calm (i_enum rfl (Y.free 6) (x_var (pv 2) rfl)) (g_tup T.calm (gs_cons (g_nm (pg_name (i := 3) T.nd rfl (Or.inl rfl)) rfl) (gs_cons (g_nm (pg_name (i := 4) T.nd rfl (Or.inl rfl)) rfl) gs_nil))) (ss_one (s_if (t_not (t_tst (w_of (x_own1 T (c_is_line Y) (by decide) rfl (xa_cons (x_var (pv 4) rfl) (xa_cons (x_var (pv 1) rfl) (xa_cons (x_b1 v_len n_len rfl (Y.free 2) hv_len (w_of (x_var (pv 2) rfl))) xa_nil))))) (by intro _; rfl))) (ss_one (s_raise T (er_InvalidMachine Y) (by decide) rfl (xa_cons (x_str (s := "nexts")) (xa_cons (x_var (pv 3) rfl) xa_nil)))) ss_nil)))
  (ss_one (s_ret (x_var (pv 2) rfl)))))))
theorem S_right_outs : FnScope N_right_outs ["value", "letters", "states"] sc_right_outs := ⟨rfl, rfl, rfl, by decide +kernel, rfl, by decide +kernel, by decide +kernel⟩
theorem c_right_outs (Y : Fs P w K mg) : CallOk P w K mg base 4 "right_outs" d_right_outs ["value", "letters", "states"] 3 m_right_outs :=
  def_ok (d := d_right_outs) (N := N_right_outs) (ps := ["value", "letters", "states"]) (p := 3) (m := b_right_outs) (k := 3) (ow := ow_right_outs) (Y.def_ 6) (Y.glo 20) S_right_outs rfl rfl (by decide) (fun _ _ _ _ _ _ us hl => match us, hl with | [_, _, _], _ => rfl) (fun cdv A outer s H E T => (ss_cons (s_set (ps_set (i := 3) T.nd rfl (Or.inl rfl) (x_own1 T (c_as_tuple Y) (by decide) rfl (xa_cons (x_var (pv 0) rfl) xa_nil))) rfl)
  (ss_cons (s_if (t_isN (w_of (x_var (pv 3) rfl))) (ss_one (s_raise T (er_InvalidMachine Y) (by decide) rfl (xa_cons (x_str (s := "outs")) (xa_cons x_int xa_nil)))) ss_nil)
  (ss_cons (s_set (ps_set (i := 4) T.nd rfl (Or.inl rfl) (x_b2 (v_min2 T.calm) n_min2 rfl (Y.free 8) hv_min (w_of (x_b1 v_len n_len rfl (Y.free 2) hv_len (w_of (x_var (pv 3) rfl)))) (w_of (x_var (pv 2) rfl)))) rfl)
  (ss_cons (s_for T.po T.calm (i_rng1 rfl (Y.free 9) (x_var (pv 4) rfl)) (g_nm (pg_name (i := 5) T.nd rfl (Or.inl rfl)) rfl) (ss_one (s_if (t_not (t_tst (w_of (x_own1 T (c_is_line Y) (by decide) rfl (xa_cons (x_idx T.ix (w_of (x_var (pv 3) rfl)) (w_of (x_var (pv 5) rfl))) (xa_cons (x_var (pv 1) rfl) (xa_cons x_int xa_nil))))) (by intro _; rfl))) (ss_one (s_raise T (er_InvalidMachine Y) (by decide) rfl (xa_cons (x_str (s := "outs")) (xa_cons (x_var (pv 5) rfl) xa_nil)))) ss_nil)))
  (ss_cons (s_if (t_cmp T.ne n_ne b_ne (w_of (x_b1 v_len n_len rfl (Y.free 2) hv_len (w_of (x_var (pv 3) rfl)))) (w_of (x_var (pv 2) rfl)) rfl) (ss_one (s_raise T (er_InvalidMachine Y) (by decide) rfl (xa_cons (x_str (s := "outs")) (xa_cons (x_var (pv 4) rfl) xa_nil)))) ss_nil)
  (ss_one (s_ret (x_var (pv 3) rfl)))))))))
theorem S_Machine_init : FnScope N_Machine_init ["self", "inputs", "nexts", "outs"] sc_Machine_init := ⟨rfl, rfl, rfl, by decide +kernel, rfl, by decide +kernel, by decide +kernel⟩
theorem c_Machine (Y : Fs P w K mg) : MakeOk P w K mg base 5 "Machine" 4 m_Machine :=
  cls_ok (name := "__init__") (qual := "Machine.__init__") (params := defArgs st_Machine_init) (body := defBody st_Machine_init) (scope := sc_Machine_init) (f := He.ma K (ca K "Machine") "__init__") (N := N_Machine_init) (p := 4) (m := b_Machine_init) (k := 4) (ow := ow_Machine_init) (Y.def_ 7) (Y.glo 21) (Y.mkr 22 (x := "Machine")) S_Machine_init rfl rfl rfl (by decide) (by decide) (fun _ _ _ _ _ _ us hl => match us, hl with | [_, _, _, _], _ => rfl) (fun cdv A outer s H E T => (ss_cons (s_if (t_not (t_tst (w_of (x_own1 T (c_is_inputs Y) (by decide) rfl (xa_cons (x_var (pv 1) rfl) xa_nil))) (by intro _; rfl))) (ss_one (s_raise T (er_InvalidMachine Y) (by decide) rfl (xa_cons (x_str (s := "inputs")) (xa_cons x_int xa_nil)))) ss_nil)
  (ss_cons (s_set (ps_set (i := 4) T.nd rfl (Or.inl rfl) (x_bin y_shl n_shl (w_of x_int) (w_of (x_var (pv 1) rfl)))) rfl)
  (ss_cons (s_setF (att_ok (Y.more 2)) (ps_fld (pv 0) (x_var (pv 1) rfl) rfl) rfl)
  (ss_cons (s_setF (att_ok (Y.more 3)) (ps_fld (pv 0) (x_own1 T (c_right_nexts Y) (by decide) rfl (xa_cons (x_var (pv 2) rfl) (xa_cons (x_var (pv 4) rfl) xa_nil))) rfl) rfl)
  (ss_one (s_setF (att_ok (Y.more 4)) (ps_fld (pv 0) (x_own1 T (c_right_outs Y) (by decide) rfl (xa_cons (x_var (pv 3) rfl) (xa_cons (x_var (pv 4) rfl) (xa_cons (x_b1 v_len n_len rfl (Y.free 2) hv_len (w_of (x_attr (att_ok (Y.more 3)) (x_own (pv 0))))) xa_nil)))) rfl) rfl)))))))
theorem S__law_take : FnScope N__law_take ["draw", "many"] sc__law_take := ⟨rfl, rfl, rfl, by decide +kernel, rfl, by decide +kernel, by decide +kernel⟩
theorem c_law_take (Y : Fs P w K mg) : CallOk P w K mg base 1 "_law_take" d__law_take ["draw", "many"] 2 m_law_take :=
  def_okP (d := d__law_take) (N := N__law_take) (ps := ["draw", "many"]) (kk := true) (m := b__law_take) (k := 0) (oN := ow__law_take) (oB := ow__law_take) (Y.def_ 8) (Y.glo 23) S__law_take rfl rfl draws_take (fun _ _ _ _ _ _ us hl => match us, hl with | [_, _], _ => rfl) (fun cdv A outer s H E T => (ss_cons (s_setL (i := 0) (ps_asg (x_bin y_add n_add (w_of (x_idx T.ix (x_own (pv 0)) (w_of x_int))) (w_of x_int)) (pg_sub (pv 0) x_int T.st)) rfl)
  (ss_cons (s_if (PW.pt (t_and (t_cmp T.eq n_eq b_eq (w_of (x_idx T.ix (x_own (pv 0)) (w_of x_int))) (w_of x_int) rfl) (t_and1 (t_cmp y_lt n_lt b_lt (w_of (x_idx T.ix (x_own (pv 0)) (w_of x_int))) (w_of (x_b1 v_lenC n_lenC rfl (Y.free 2) hv_len (w_of (x_idx T.ix (x_own (pv 0)) (w_of x_int))))) rfl)))) (ss_cons (s_set (ps_set (i := 2) T.nd rfl (Or.inl rfl) (x_idxC T.ixC (w_of (x_idx T.ix (x_own (pv 0)) (w_of x_int))) (w_of (x_idx T.ix (x_own (pv 0)) (w_of x_int))))) rfl)
  (ss_cons (s_setL (i := 0) (ps_asg (x_bin y_add n_add (w_of (x_idx T.ix (x_own (pv 0)) (w_of x_int))) (w_of x_int)) (pg_sub (pv 0) x_int T.st)) rfl)
  (ss_cons (s_if (t_cmp y_ge n_ge b_ge (w_of (x_var (pv 2) rfl)) (w_of (x_bin y_pow n_pow (w_of x_int) (w_of x_int))) rfl) (ss_one (s_setL (i := 0) (ps_asg (x_var (pv 2) rfl) (pg_sub (pv 0) x_int T.st)) rfl)) ss_nil)
  (ss_one (s_setL (i := 0) (ps_asg (x_bin y_mod n_mod (w_of (x_t1 v_int n_int rfl (Y.free 4) hv_int (w_of (x_bin y_add n_add (w_of (x_bin y_mul n_mul (w_of (x_idx T.ix (x_own (pv 0)) (w_of x_int))) (w_of x_int))) (w_of (x_var (pv 2) rfl)))))) (w_of x_int)) (pg_sub (pv 0) x_int T.st)) rfl))))) ss_nil)
  (ss_cons (s_if (t_cmp y_gt n_gt b_gt (w_of (x_idx T.ix (x_own (pv 0)) (w_of x_int))) (w_of x_int) rfl) (ss_cons (s_set (ps_set (i := 3) T.nd rfl (Or.inl rfl) (x_bin y_mod n_mod (w_of (x_t1 v_int n_int rfl (Y.free 4) hv_int (w_of (x_idx T.ix (x_own (pv 0)) (w_of x_int))))) (w_of (x_var (pv 1) rfl)))) rfl)
  (ss_cons (s_setL (i := 0) (ps_asg (x_bin y_fdiv n_fdiv (w_of (x_idx T.ix (x_own (pv 0)) (w_of x_int))) (w_of (x_var (pv 1) rfl))) (pg_sub (pv 0) x_int T.st)) rfl)
  (ss_one (s_retB (x_var (pv 3) rfl) rfl)))) ss_nil)
  (ss_cons (s_setL (i := 0) (ps_asg (x_bin y_mod n_mod (w_of (x_t1 v_int n_int rfl (Y.free 4) hv_int (w_of (x_bin y_add n_add (w_of (x_bin y_add n_add (w_of (x_bin y_mul n_mul (w_of (x_idx T.ix (x_own (pv 0)) (w_of x_int))) (w_of x_int))) (w_of (x_bin y_mul n_mul (w_of (x_idx T.ix (x_own (pv 0)) (w_of x_int))) (w_of x_int))))) (w_of x_int))))) (w_of x_int)) (pg_sub (pv 0) x_int T.st)) rfl)
  (ss_cons (s_set (ps_set (i := 4) T.nd rfl (Or.inl rfl) (x_bin y_mod n_mod (w_of (x_t1 v_int n_int rfl (Y.free 4) hv_int (w_of (x_bin y_mul n_mul (w_of (x_idx T.ix (x_own (pv 0)) (w_of x_int))) (w_of (x_idx T.ix (x_own (pv 0)) (w_of x_int))))))) (w_of x_int))) rfl)
  (ss_one (s_retB (x_bin y_mod n_mod (w_of (x_t1 v_int n_int rfl (Y.free 4) hv_int (w_of (x_bin y_fdiv n_fdiv (w_of (x_var (pv 4) rfl)) (w_of x_int))))) (w_of (x_var (pv 1) rfl))) rfl))))))))
theorem S__law_machine : FnScope N__law_machine ["draw", "letters"] sc__law_machine := ⟨rfl, rfl, rfl, by decide +kernel, rfl, by decide +kernel, by decide +kernel⟩
theorem c_law_machine (Y : Fs P w K mg) : CallOk P w K mg base 2 "_law_machine" d__law_machine ["draw", "letters"] 2 m_law_machine :=
  def_ok (d := d__law_machine) (N := N__law_machine) (ps := ["draw", "letters"]) (p := 2) (m := b__law_machine) (k := 1) (ow := ow__law_machine) (oN := owS []) (oB := owS []) (Y.def_ 9) (Y.glo 24) S__law_machine rfl rfl (by decide) (fun _ _ _ _ _ _ us hl => match us, hl with | [_, _], _ => rfl) (fun cdv A outer s H E T => (c_cons (o1 := owS []) (s_up (s_set (ps_set (i := 2) T.nd rfl (Or.inl rfl) (x_own1 T (c_law_take Y) (by decide) rfl (xa_cons (x_var (pv 0) rfl) (xa_cons x_int xa_nil)))) rfl) (owS_le (by decide)) (by decide))
  (c_cons (o1 := owS []) (s_up (s_set (ps_set (i := 3) T.nd rfl (Or.inr rfl) (x_idx T.ix (w_of (x_tup (xa_cons x_int (xa_cons x_int (xa_cons x_int (xa_cons x_int (xa_cons x_int (xa_cons x_int (xa_cons x_int xa_nil))))))))) (w_of (x_own1 T (c_law_take Y) (by decide) rfl (xa_cons (x_var (pv 0) rfl) (xa_cons x_int xa_nil)))))) rfl) (owS_le (by decide)) (by decide))
  (c_cons (o1 := owS [4]) (c_own (ps_set (i := 4) T.nd rfl (Or.inr rfl) (f_lc (own := [("s", 12)]) T (i_gr (i_rng1 rfl (Y.free 9) (x_var (pv 3) rfl))) (blkOk_by (N := N__law_machine) (sc := sc__law_machine) (own := [("s", 12)]) (by decide +kernel)) (fun _ _ _ _ _ T1 => (g_nm (pg_name (i := 12) T1.nd rfl (Or.inl rfl)) rfl)) (fun _ _ _ _ _ T1 => ts_nil) (fun _ _ _ _ _ T1 => (x_t1 v_tuple n_tuple rfl (Y.free 1) hv_tuple (w_of (e_of (f_lc (own := [("x", 6)]) T1 (i_gr (i_rng1 rfl (Y.free 9) (x_var (pv 1) rfl))) (blkOk_by (N := N__law_machine) (own := [("x", 6)]) (by kernel_rfl)) (fun _ _ _ _ _ T2 => (g_nm (pg_name (i := 6) T2.nd rfl (Or.inl rfl)) rfl)) (fun _ _ _ _ _ T2 => ts_nil) (fun _ _ _ _ _ T2 => (x_own1 T2 (c_law_take Y) (by decide) rfl (xa_cons (x_var (pv 0) rfl) (xa_cons x_int xa_nil)))) (by decide)))))) (by decide))) rfl (owS_add (by decide)))
  (c_cons (o1 := owS [4]) (c_if (t_cmp y_lt n_lt b_lt (w_of (x_var (pv 2) rfl)) (w_of x_int) rfl) (c_cut (o1 := owS []) (c_one (c_own (ps_set (i := 4) T.nd rfl (Or.inr rfl) (f_lc (own := [("s", 12)]) T (i_gr (i_rng1 rfl (Y.free 9) (x_var (pv 3) rfl))) (blkOk_by (N := N__law_machine) (sc := sc__law_machine) (own := [("s", 12)]) (by decide +kernel)) (fun _ _ _ _ _ T3 => (g_nm (pg_name (i := 12) T3.nd rfl (Or.inl rfl)) rfl)) (fun _ _ _ _ _ T3 => ts_nil) (fun _ _ _ _ _ T3 => (x_idx T3.ix (w_of (x_var (pv 4) rfl)) (w_of x_int))) (by decide))) rfl (owS_add (by decide)))) (owS_le (by decide)) (by decide)) (c_cut (o1 := owS [4]) c_nil (owS_le (by decide)) (by decide)))
  (c_cons (o1 := owS []) (c_if (t_cmp T.eq n_eq b_eq (w_of (x_var (pv 2) rfl)) (w_of x_int) rfl) (c_cons (o1 := owS [4]) (s_up (s_set (ps_set (i := 5) T.nd rfl (Or.inl rfl) (x_own1 T (c_law_take Y) (by decide) rfl (xa_cons (x_var (pv 0) rfl) (xa_cons (x_var (pv 3) rfl) xa_nil)))) rfl) (owS_le (by decide)) (by decide))
  (c_cons (o1 := owS [4]) (s_up (s_set (ps_set (i := 6) T.nd rfl (Or.inl rfl) (x_own1 T (c_law_take Y) (by decide) rfl (xa_cons (x_var (pv 0) rfl) (xa_cons (x_var (pv 1) rfl) xa_nil)))) rfl) (owS_le (by decide)) (by decide))
  (c_one (c_end (o1 := owS [4]) (s_up (s_setL (i := 4) (ps_asg (x_bin y_add n_add (w_of (x_bin y_add n_add (w_of (x_slc (w_of (x_idx T.ix (x_own (pv 4)) (w_of (x_var (pv 5) rfl)))) o_none (o_some (x_var (pv 6) rfl)))) (w_of (x_tup (xa_cons (x_bin y_sub n_sub (w_of x_int) (w_of (x_idx T.ix (w_of (x_idx T.ix (x_own (pv 4)) (w_of (x_var (pv 5) rfl)))) (w_of (x_var (pv 6) rfl))))) xa_nil))))) (w_of (x_slc (w_of (x_idx T.ix (x_own (pv 4)) (w_of (x_var (pv 5) rfl)))) (o_some (x_bin y_add n_add (w_of (x_var (pv 6) rfl)) (w_of x_int))) o_none))) (pg_sub (pv 4) (x_var (pv 5) rfl) T.st)) rfl) (owS_le (by decide)) (by decide)) (owS_le (by decide)) (by decide))))) (c_cut (o1 := owS []) c_nil (owS_le (by decide)) (by decide)))
  (c_cons (o1 := owS [7]) (c_own (ps_set (i := 7) T.nd rfl (Or.inr rfl) (f_lrng1 T.calm rfl (Y.free 0) rfl (Y.free 9) (x_var (pv 3) rfl))) rfl (owS_add (by decide)))
  (c_cons (o1 := owS [7]) (s_up (s_for T.po T.calm (i_rng1 rfl (Y.free 9) (x_idx T.ix (w_of (x_tup (xa_cons x_int (xa_cons x_int (xa_cons x_int (xa_cons x_int (xa_cons x_int (xa_cons (x_bin y_sub n_sub (w_of x_int) (w_of (x_var (pv 3) rfl))) xa_nil)))))))) (w_of (x_own1 T (c_law_take Y) (by decide) rfl (xa_cons (x_var (pv 0) rfl) (xa_cons x_int xa_nil)))))) (g_nm (pg_name (i := 8) T.nd rfl (Or.inl rfl)) rfl) (c_one (s_up (s_app1 (i := 7) (pv 7) (x_own1 T (c_law_take Y) (by decide) rfl (xa_cons (x_var (pv 0) rfl) (xa_cons (x_var (pv 3) rfl) xa_nil))) rfl) (owS_le (by decide)) (by decide)))) (owS_le (by decide)) (by decide))
  (c_cut (o1 := owS []) (c_cons (o1 := owS [9]) (c_own (ps_set (i := 9) T.nd rfl (Or.inl rfl) (f_lst xa_nil)) rfl (owS_add (by decide)))
  (c_cons (o1 := owS [9]) (s_up (s_for T.po T.calm (i_rng1 rfl (Y.free 9) (x_b1 v_len n_len rfl (Y.free 2) hv_len (w_of (x_var (pv 7) rfl)))) (g_nm (pg_name (i := 8) T.nd rfl (Or.inl rfl)) rfl) (c_one (s_up (s_app1 (i := 9) (pv 9) (x_t1 v_tuple n_tuple rfl (Y.free 1) hv_tuple (w_of (e_of (f_lc (own := [("x", 6)]) T (i_gr (i_rng1 rfl (Y.free 9) (x_var (pv 1) rfl))) (blkOk_by (N := N__law_machine) (sc := sc__law_machine) (own := [("x", 6)]) (by decide +kernel)) (fun _ _ _ _ _ T4 => (g_nm (pg_name (i := 6) T4.nd rfl (Or.inl rfl)) rfl)) (fun _ _ _ _ _ T4 => ts_nil) (fun _ _ _ _ _ T4 => x_int) (by decide))))) rfl) (owS_le (by decide)) (by decide)))) (owS_le (by decide)) (by decide))
  (c_cons (o1 := owS [9]) (s_up (s_set (ps_set (i := 10) T.nd rfl (Or.inr rfl) (x_idx T.ix (w_of (x_tup (xa_cons x_int (xa_cons (x_var (pv 3) rfl) (xa_cons (x_b1 v_len n_len rfl (Y.free 2) hv_len (w_of (x_var (pv 7) rfl))) xa_nil))))) (w_of (x_own1 T (c_law_take Y) (by decide) rfl (xa_cons (x_var (pv 0) rfl) (xa_cons x_int xa_nil)))))) rfl) (owS_le (by decide)) (by decide))
  (c_cons (o1 := owS []) (c_if (t_cmp y_lt n_lt b_lt (w_of (x_var (pv 2) rfl)) (w_of x_int) rfl) (c_one (c_end (o1 := owS [9]) (s_up (s_for T.po T.calm (i_rng1 rfl (Y.free 9) (x_b1 v_len n_len rfl (Y.free 2) hv_len (w_of (x_var (pv 7) rfl)))) (g_nm (pg_name (i := 8) T.nd rfl (Or.inl rfl)) rfl) (c_one (s_up (s_setL (i := 9) (ps_asg (x_t1 v_tuple n_tuple rfl (Y.free 1) hv_tuple (w_of (e_of (f_lc (own := [("x", 6)]) T (i_gr (i_rng1 rfl (Y.free 9) (x_var (pv 1) rfl))) (blkOk_by (N := N__law_machine) (sc := sc__law_machine) (own := [("x", 6)]) (by decide +kernel)) (fun _ _ _ _ _ T5 => (g_nm (pg_name (i := 6) T5.nd rfl (Or.inl rfl)) rfl)) (fun _ _ _ _ _ T5 => ts_nil) (fun _ _ _ _ _ T5 => (x_own1 T5 (c_law_take Y) (by decide) rfl (xa_cons (x_var (pv 0) rfl) (xa_cons (x_var (pv 10) rfl) xa_nil)))) (by decide))))) (pg_sub (pv 9) (x_var (pv 8) rfl) T.st)) rfl) (owS_le (by decide)) (by decide)))) (owS_le (by decide)) (by decide)) (owS_le (by decide)) (by decide))) (c_cons (o1 := owS [9, 11]) (c_own (ps_set (i := 11) T.nd rfl (Or.inl rfl) (f_lst xa_nil)) rfl (owS_add (by decide)))
  (c_cons (o1 := owS [9, 11]) (s_up (s_for T.po T.calm (i_rng1 rfl (Y.free 9) (x_var (pv 3) rfl)) (g_nm (pg_name (i := 12) T.nd rfl (Or.inr rfl)) rfl) (c_one (s_up (s_app1 (i := 11) (pv 11) (e_of (f_lc (own := [("x", 6)]) T (i_gr (i_rng1 rfl (Y.free 9) (x_var (pv 1) rfl))) (blkOk_by (N := N__law_machine) (sc := sc__law_machine) (own := [("x", 6)]) (by decide +kernel)) (fun _ _ _ _ _ T6 => (g_nm (pg_name (i := 6) T6.nd rfl (Or.inl rfl)) rfl)) (fun _ _ _ _ _ T6 => ts_nil) (fun _ _ _ _ _ T6 => (x_own1 T6 (c_law_take Y) (by decide) rfl (xa_cons (x_var (pv 0) rfl) (xa_cons (x_var (pv 3) rfl) xa_nil)))) (by decide))) rfl) (owS_le (by decide)) (by decide)))) (owS_le (by decide)) (by decide))
  (c_cut (o1 := owS [9]) (c_cons (o1 := owS [9, 13]) (c_own (ps_set (i := 13) T.nd rfl (Or.inr rfl) (f_lst xa_nil)) rfl (owS_add (by decide)))
  (c_cons (o1 := owS [9, 13]) (s_up (s_for T.po T.calm (i_rng1 rfl (Y.free 9) (x_var (pv 3) rfl)) (g_nm (pg_name (i := 12) T.nd rfl (Or.inr rfl)) rfl) (c_one (s_up (s_app1 (i := 13) (pv 13) (e_of (f_lc (own := [("k", 8)]) T (i_gr (i_rng1 rfl (Y.free 9) (x_b1 v_len n_len rfl (Y.free 2) hv_len (w_of (x_var (pv 7) rfl))))) (blkOk_by (N := N__law_machine) (sc := sc__law_machine) (own := [("k", 8)]) (by decide +kernel)) (fun _ _ _ _ _ T7 => (g_nm (pg_name (i := 8) T7.nd rfl (Or.inl rfl)) rfl)) (fun _ _ _ _ _ T7 => (ts_one (t_cmp T7.eq n_eq b_eq (w_of (x_idx T7.ix (w_of (x_var (pv 7) rfl)) (w_of (x_var (pv 8) rfl)))) (w_of (x_var (pv 12) rfl)) rfl))) (fun _ _ _ _ _ T7 => (x_var (pv 8) rfl)) (by decide))) rfl) (owS_le (by decide)) (by decide)))) (owS_le (by decide)) (by decide))
  (c_cut (o1 := owS [9]) (c_one (c_end (o1 := owS [9]) (s_up (s_for T.po T.calm (i_rng1 rfl (Y.free 9) (x_b1 v_len n_len rfl (Y.free 2) hv_len (w_of (x_var (pv 7) rfl)))) (g_nm (pg_name (i := 8) T.nd rfl (Or.inl rfl)) rfl) (c_one (s_up (s_setL (i := 9) (ps_asg (x_t1 v_tuple n_tuple rfl (Y.free 1) hv_tuple (w_of (e_of (f_lc (own := [("t", 14)]) T (i_gr (i_seq (x_idx T.ix (w_of (x_var (pv 11) rfl)) (w_of (x_idx T.ix (w_of (x_var (pv 7) rfl)) (w_of (x_var (pv 8) rfl))))))) (blkOk_by (N := N__law_machine) (sc := sc__law_machine) (own := [("t", 14)]) (by decide +kernel)) (fun _ _ _ _ _ T8 => (g_nm (pg_name (i := 14) T8.nd rfl (Or.inl rfl)) rfl)) (fun _ _ _ _ _ T8 => ts_nil) (fun _ _ _ _ _ T8 => (x_idx T8.ix (w_of (x_idx T8.ix (w_of (x_var (pv 13) rfl)) (w_of (x_var (pv 14) rfl)))) (w_of (x_own1 T8 (c_law_take Y) (by decide) rfl (xa_cons (x_var (pv 0) rfl) (xa_cons (x_b1 v_len n_len rfl (Y.free 2) hv_len (w_of (x_idx T8.ix (w_of (x_var (pv 13) rfl)) (w_of (x_var (pv 14) rfl))))) xa_nil)))))) (by decide))))) (pg_sub (pv 9) (x_var (pv 8) rfl) T.st)) rfl) (owS_le (by decide)) (by decide)))) (owS_le (by decide)) (by decide)) (owS_le (by decide)) (by decide))) (owS_le (by decide)) (by decide)))) (owS_le (by decide)) (by decide)))))
  (c_one (s_up (s_ret (x_tup (xa_cons (x_var (pv 9) rfl) (xa_cons (e_of (f_lc (own := [("s", 12)]) T (i_gr (i_seq (x_var (pv 7) rfl))) (blkOk_by (N := N__law_machine) (sc := sc__law_machine) (own := [("s", 12)]) (by decide +kernel)) (fun _ _ _ _ _ T9 => (g_nm (pg_name (i := 12) T9.nd rfl (Or.inl rfl)) rfl)) (fun _ _ _ _ _ T9 => ts_nil) (fun _ _ _ _ _ T9 => (x_idx T9.ix (w_of (x_var (pv 4) rfl)) (w_of (x_var (pv 12) rfl)))) (by decide))) xa_nil)))) (owS_le (by decide)) (by decide))))))) (owS_le (by decide)) (by decide))))))))))
theorem S__law_bit : FnScope N__law_bit ["row", "letter"] sc__law_bit := ⟨rfl, rfl, rfl, by decide +kernel, rfl, by decide +kernel, by decide +kernel⟩
theorem c_law_bit (Y : Fs P w K mg) : CallOk P w K mg base 1 "_law_bit" d__law_bit ["row", "letter"] 2 m_law_bit :=
  def_ok (d := d__law_bit) (N := N__law_bit) (ps := ["row", "letter"]) (p := 2) (m := b__law_bit) (k := 0) (ow := ow__law_bit) (oN := owS []) (oB := owS []) (Y.def_ 10) (Y.glo 25) S__law_bit rfl rfl (by decide) (fun _ _ _ _ _ _ us hl => match us, hl with | [_, _], _ => rfl) (fun cdv A outer s H E T => (c_cons (o1 := owS [2]) (c_own (s_lc0 (i := 2) (own := [("i", 4)]) T rfl rfl rfl (i_gr (i_rng1 rfl (Y.free 9) (x_attr (att_ok (Y.more 6)) (w_of (x_var (pv 0) rfl))))) (blkOk_by (N := N__law_bit) (sc := sc__law_bit) (own := [("i", 4)]) (by decide +kernel)) (fun _ _ _ _ _ T1 => (g_nm (pg_name (i := 4) T1.nd rfl (Or.inl rfl)) rfl)) (fun _ _ _ _ _ T1 => ts_nil) (fun _ _ _ _ _ T1 => (x_bin y_and n_and (w_of (x_bin y_fdiv n_fdiv (w_of (x_var (pv 1) rfl)) (w_of (x_idx T1.ix (w_of (x_tup (xa_cons x_int (xa_cons x_int (xa_cons x_int xa_nil))))) (w_of (x_var (pv 4) rfl)))))) (w_of x_int))) (by decide)) rfl (owS_add (by decide)))
  (c_cons (o1 := owS [2]) (s_up (s_for T.po T.calm (i_seq (x_attr (att_ok (Y.more 0)) (w_of (x_var (pv 0) rfl)))) (g_nm (pg_name (i := 3) T.nd rfl (Or.inl rfl)) rfl) (c_one (c_if (t_cmp T.eq n_eq b_eq (w_of (x_idx T.ix (w_of (x_var (pv 3) rfl)) (w_of x_int))) (w_of (x_str (s := "zero"))) rfl) (c_one (s_up (s_app1 (i := 2) (pv 2) x_int rfl) (owS_le (by decide)) (by decide))) (c_one (c_if (t_cmp T.eq n_eq b_eq (w_of (x_idx T.ix (w_of (x_var (pv 3) rfl)) (w_of x_int))) (w_of (x_str (s := "ones"))) rfl) (c_one (s_up (s_app1 (i := 2) (pv 2) x_int rfl) (owS_le (by decide)) (by decide))) (c_one (c_if (t_cmp T.eq n_eq b_eq (w_of (x_idx T.ix (w_of (x_var (pv 3) rfl)) (w_of x_int))) (w_of (x_str (s := "not"))) rfl) (c_one (s_up (s_app1 (i := 2) (pv 2) (x_bin y_sub n_sub (w_of x_int) (w_of (x_idx T.ix (x_own (pv 2)) (w_of (x_idx T.ix (w_of (x_var (pv 3) rfl)) (w_of x_int)))))) rfl) (owS_le (by decide)) (by decide))) (c_one (c_if (t_cmp T.eq n_eq b_eq (w_of (x_idx T.ix (w_of (x_var (pv 3) rfl)) (w_of x_int))) (w_of (x_str (s := "and"))) rfl) (c_one (s_up (s_app1 (i := 2) (pv 2) (x_bin y_and n_and (w_of (x_idx T.ix (x_own (pv 2)) (w_of (x_idx T.ix (w_of (x_var (pv 3) rfl)) (w_of x_int))))) (w_of (x_idx T.ix (x_own (pv 2)) (w_of (x_idx T.ix (w_of (x_var (pv 3) rfl)) (w_of x_int)))))) rfl) (owS_le (by decide)) (by decide))) (c_one (c_if (t_cmp T.eq n_eq b_eq (w_of (x_idx T.ix (w_of (x_var (pv 3) rfl)) (w_of x_int))) (w_of (x_str (s := "or"))) rfl) (c_one (s_up (s_app1 (i := 2) (pv 2) (x_bin y_or n_or (w_of (x_idx T.ix (x_own (pv 2)) (w_of (x_idx T.ix (w_of (x_var (pv 3) rfl)) (w_of x_int))))) (w_of (x_idx T.ix (x_own (pv 2)) (w_of (x_idx T.ix (w_of (x_var (pv 3) rfl)) (w_of x_int)))))) rfl) (owS_le (by decide)) (by decide))) (c_one (s_up (s_app1 (i := 2) (pv 2) (x_bin y_xor n_xor (w_of (x_idx T.ix (x_own (pv 2)) (w_of (x_idx T.ix (w_of (x_var (pv 3) rfl)) (w_of x_int))))) (w_of (x_idx T.ix (x_own (pv 2)) (w_of (x_idx T.ix (w_of (x_var (pv 3) rfl)) (w_of x_int)))))) rfl) (owS_le (by decide)) (by decide)))))))))))))) (owS_le (by decide)) (by decide))
  (c_cut (o1 := owS []) (c_one (s_up (s_ret (x_idx T.ix (w_of (x_var (pv 2) rfl)) (w_of (x_attr (att_ok (Y.more 1)) (w_of (x_var (pv 0) rfl)))))) (owS_le (by decide)) (by decide))) (owS_le (by decide)) (by decide)))))
theorem S__law_integer : FnScope N__law_integer ["value"] sc__law_integer := ⟨rfl, rfl, rfl, by decide +kernel, rfl, by decide +kernel, by decide +kernel⟩
theorem c_law_integer (Y : Fs P w K mg) : CallOk P w K mg base 1 "_law_integer" d__law_integer ["value"] 1 m_law_integer :=
  def_ok (d := d__law_integer) (N := N__law_integer) (ps := ["value"]) (p := 1) (m := b__law_integer) (k := 0) (ow := ow__law_integer) (Y.def_ 11) (Y.glo 26) S__law_integer rfl rfl (by decide) (fun _ _ _ _ _ _ us hl => match us, hl with | [_], _ => rfl) (fun cdv A outer s H E T => (ss_one (s_ret (x_and (x_isi1 (cs := CS) (t := .int) rfl (kit_of_b (Y.more 5)) rfl (Y.free 3) (w_of (x_var (pv 0) rfl)) (pe_bltn rfl (Y.free 4) hv_int rfl)) (x_one (x_not (x_isi1 (cs := CS) (t := .bl) rfl (kit_of_b (Y.more 5)) rfl (Y.free 3) (w_of (x_var (pv 0) rfl)) (pe_bltn rfl (Y.free 5) hv_bool rfl))))))))
theorem S__law_numbers : FnScope N__law_numbers ["values", "most"] sc__law_numbers := ⟨rfl, rfl, rfl, by decide +kernel, rfl, by decide +kernel, by decide +kernel⟩
theorem c_law_numbers (Y : Fs P w K mg) : CallOk P w K mg base 2 "_law_numbers" d__law_numbers ["values", "most"] 2 m_law_numbers :=
  def_ok (d := d__law_numbers) (N := N__law_numbers) (ps := ["values", "most"]) (p := 2) (m := b__law_numbers) (k := 1) (ow := ow__law_numbers) (Y.def_ 12) (Y.glo 27) S__law_numbers rfl rfl (by decide) (fun _ _ _ _ _ _ us hl => match us, hl with | [_, _], _ => rfl) (fun cdv A outer s H E T => (ss_cons (s_for T.po T.calm (i_seq (x_var (pv 0) rfl)) (g_nm (pg_name (i := 2) T.nd rfl (Or.inl rfl)) rfl) (ss_one (s_if (PW.pt (t_or (t_not (t_tst (w_of (x_own1 T (c_law_integer Y) (by decide) rfl (xa_cons (x_var (pv 2) rfl) xa_nil))) (by intro _; rfl))) (t_or (t_cmp y_lt n_lt b_lt (w_of (x_var (pv 2) rfl)) (w_of x_int) rfl) (t_or1 (t_cmp y_ge n_ge b_ge (w_of (x_var (pv 2) rfl)) (w_of (x_var (pv 1) rfl)) rfl))))) (ss_one (s_ret x_bl)) ss_nil)))
  (ss_one (s_ret x_bl))))
theorem S__law_good_row : FnScope N__law_good_row ["found", "inputs"] sc__law_good_row := ⟨rfl, rfl, rfl, by decide +kernel, rfl, by decide +kernel, by decide +kernel⟩
theorem c_law_good_row (Y : Fs P w K mg) : CallOk P w K mg base 3 "_law_good_row" d__law_good_row ["found", "inputs"] 2 m_law_good_row :=
  def_ok (d := d__law_good_row) (N := N__law_good_row) (ps := ["found", "inputs"]) (p := 2) (m := b__law_good_row) (k := 2) (ow := ow__law_good_row) (Y.def_ 13) (Y.glo 28) S__law_good_row rfl rfl (by decide) (fun _ _ _ _ _ _ us hl => match us, hl with | [_, _], _ => rfl) (fun cdv A outer s H E T => (ss_cons (s_if (PW.pt (t_or (t_not (t_tst (w_of (x_isi1 (cs := CS) (t := (.cls "Row")) rfl (kit_of_b (Y.more 5)) rfl (Y.free 3) (w_of (x_var (pv 0) rfl)) (pe_glob rfl (Y.glo 10) rfl))) (by intro _; rfl))) (t_or (t_not (t_tst (w_of (x_own1 T (c_law_integer Y) (by decide) rfl (xa_cons (x_attr (att_ok (Y.more 6)) (w_of (x_var (pv 0) rfl))) xa_nil))) (by intro _; rfl))) (t_or1 (t_cmp T.ne n_ne b_ne (w_of (x_attr (att_ok (Y.more 6)) (w_of (x_var (pv 0) rfl)))) (w_of (x_var (pv 1) rfl)) rfl))))) (ss_one (s_ret x_bl)) ss_nil)
  (ss_cons (s_if (PW.pt (t_or (t_not (t_tst (w_of (x_isi1 (cs := CS) (t := .tup) rfl (kit_of_b (Y.more 5)) rfl (Y.free 3) (w_of (x_attr (att_ok (Y.more 0)) (w_of (x_var (pv 0) rfl)))) (pe_bltn rfl (Y.free 1) hv_tuple rfl))) (by intro _; rfl))) (t_or1 (t_cmp y_gt n_gt b_gt (w_of (x_b1 v_len n_len rfl (Y.free 2) hv_len (w_of (x_attr (att_ok (Y.more 0)) (w_of (x_var (pv 0) rfl)))))) (w_of x_int) rfl)))) (ss_one (s_ret x_bl)) ss_nil)
  (ss_cons (s_set (ps_set (i := 2) T.nd rfl (Or.inl rfl) (e_of (f_dicC (ck_si (ck_si (ck_si (ck_si (ck_si (ck_si ck_nil))))))))) rfl)
  (ss_cons (s_set (ps_set (i := 3) T.nd rfl (Or.inl rfl) (x_var (pv 1) rfl)) rfl)
  (ss_cons (s_for T.po T.calm (i_seq (x_attr (att_ok (Y.more 0)) (w_of (x_var (pv 0) rfl)))) (g_nm (pg_name (i := 4) T.nd rfl (Or.inl rfl)) rfl) (ss_cons (s_if (PW.pt (t_or (t_not (t_tst (w_of (x_isi1 (cs := CS) (t := .tup) rfl (kit_of_b (Y.more 5)) rfl (Y.free 3) (w_of (x_var (pv 4) rfl)) (pe_bltn rfl (Y.free 1) hv_tuple rfl))) (by intro _; rfl))) (t_or (t_cmp T.eq n_eq b_eq (w_of (x_b1 v_len n_len rfl (Y.free 2) hv_len (w_of (x_var (pv 4) rfl)))) (w_of x_int) rfl) (t_or (t_not (t_tst (w_of (x_isi1 (cs := CS) (t := .str) rfl (kit_of_b (Y.more 5)) rfl (Y.free 3) (w_of (x_idx T.ix (w_of (x_var (pv 4) rfl)) (w_of x_int))) (pe_bltn rfl (Y.free 11) hv_str rfl))) (by intro _; rfl))) (t_or1 (t_cmp T.nin n_notin b_notin (w_of (x_idx T.ix (w_of (x_var (pv 4) rfl)) (w_of x_int))) (w_of (x_var (pv 2) rfl)) rfl)))))) (ss_one (s_ret x_bl)) ss_nil)
  (ss_cons (s_if (PW.pt (t_or (t_cmp T.ne n_ne b_ne (w_of (x_b1 v_len n_len rfl (Y.free 2) hv_len (w_of (x_var (pv 4) rfl)))) (w_of (x_idx T.ix (w_of (x_var (pv 2) rfl)) (w_of (x_idx T.ix (w_of (x_var (pv 4) rfl)) (w_of x_int))))) rfl) (t_or1 (t_not (t_tst (w_of (x_own1 T (c_law_numbers Y) (by decide) rfl (xa_cons (x_slc (w_of (x_var (pv 4) rfl)) (o_some x_int) o_none) (xa_cons (x_var (pv 3) rfl) xa_nil)))) (by intro _; rfl)))))) (ss_one (s_ret x_bl)) ss_nil)
  (ss_one (s_set (ps_set (i := 3) T.nd rfl (Or.inl rfl) (x_bin y_add n_add (w_of (x_var (pv 3) rfl)) (w_of x_int))) rfl)))))
  (ss_one (s_ret (x_own1 T (c_law_numbers Y) (by decide) rfl (xa_cons (e_of (f_lst (xa_cons (x_attr (att_ok (Y.more 1)) (w_of (x_var (pv 0) rfl))) xa_nil))) (xa_cons (x_var (pv 3) rfl) xa_nil)))))))))))
theorem S__law_one_state : FnScope N__law_one_state ["nexts", "outs"] sc__law_one_state := ⟨rfl, rfl, rfl, by decide +kernel, rfl, by decide +kernel, by decide +kernel⟩
theorem c_law_one_state (Y : Fs P w K mg) : CallOk P w K mg base 1 "_law_one_state" d__law_one_state ["nexts", "outs"] 2 m_law_one_state :=
  def_ok (d := d__law_one_state) (N := N__law_one_state) (ps := ["nexts", "outs"]) (p := 2) (m := b__law_one_state) (k := 0) (ow := ow__law_one_state) (oN := owS []) (oB := owS []) (Y.def_ 14) (Y.glo 29) S__law_one_state rfl rfl (by decide) (fun _ _ _ _ _ _ us hl => match us, hl with | [_, _], _ => rfl) (fun cdv A outer s H E T => (c_cons (o1 := owS [2]) (c_own (ps_set (i := 2) T.nd rfl (Or.inl rfl) (f_dicK x_int x_bl)) rfl (owS_add (by decide)))
  (c_cons (o1 := owS [2, 3]) (c_own (ps_set (i := 3) T.nd rfl (Or.inl rfl) (f_lst (xa_cons x_int xa_nil))) rfl (owS_add (by decide)))
  (c_cons (o1 := owS [2, 3]) (s_up (s_for T.po T.calm (i_rng1 rfl (Y.free 9) (x_b1 v_len n_len rfl (Y.free 2) hv_len (w_of (x_var (pv 0) rfl)))) (g_nm (pg_name (i := 4) T.nd rfl (Or.inl rfl)) rfl) (c_one (c_if (t_cmp y_lt n_lt b_lt (w_of (x_var (pv 4) rfl)) (w_of (x_b1 v_len n_len rfl (Y.free 2) hv_len (x_own (pv 3)))) rfl) (c_cons (o1 := owS [2, 3]) (c_if (t_cmp T.ne n_ne b_ne (w_of (x_idx T.ix (w_of (x_var (pv 1) rfl)) (w_of (x_idx T.ix (x_own (pv 3)) (w_of (x_var (pv 4) rfl)))))) (w_of (x_idx T.ix (w_of (x_var (pv 1) rfl)) (w_of x_int))) rfl) (c_one (s_up (s_ret x_bl) (owS_le (by decide)) (by decide))) (c_cut (o1 := owS [2, 3]) c_nil (owS_le (by decide)) (by decide)))
  (c_one (s_up (s_for T.po T.calm (i_seq (x_idx T.ix (w_of (x_var (pv 0) rfl)) (w_of (x_idx T.ix (x_own (pv 3)) (w_of (x_var (pv 4) rfl)))))) (g_nm (pg_name (i := 5) T.nd rfl (Or.inl rfl)) rfl) (c_one (c_if (t_cmp T.nin n_notin b_notin (w_of (x_var (pv 5) rfl)) (x_own (pv 2)) rfl) (c_cons (o1 := owS [2, 3]) (s_up (s_setL (i := 2) (ps_asg x_bl (pg_sub (pv 2) (x_var (pv 5) rfl) T.st)) rfl) (owS_le (by decide)) (by decide))
  (c_one (s_up (s_app1 (i := 3) (pv 3) (x_var (pv 5) rfl) rfl) (owS_le (by decide)) (by decide)))) (c_cut (o1 := owS [2, 3]) c_nil (owS_le (by decide)) (by decide))))) (owS_le (by decide)) (by decide)))) (c_cut (o1 := owS [2, 3]) c_nil (owS_le (by decide)) (by decide))))) (owS_le (by decide)) (by decide))
  (c_cut (o1 := owS []) (c_one (s_up (s_ret x_bl) (owS_le (by decide)) (by decide))) (owS_le (by decide)) (by decide))))))
theorem S__law_right : FnScope N__law_right ["found", "inputs", "nexts", "outs"] sc__law_right := ⟨rfl, rfl, rfl, by decide +kernel, rfl, by decide +kernel, by decide +kernel⟩
theorem c_law_right (Y : Fs P w K mg) : CallOk P w K mg base 4 "_law_right" d__law_right ["found", "inputs", "nexts", "outs"] 4 m_law_right :=
  def_ok (d := d__law_right) (N := N__law_right) (ps := ["found", "inputs", "nexts", "outs"]) (p := 4) (m := b__law_right) (k := 3) (ow := ow__law_right) (Y.def_ 15) (Y.glo 30) S__law_right rfl rfl (by decide) (fun _ _ _ _ _ _ us hl => match us, hl with | [_, _, _, _], _ => rfl) (fun cdv A outer s H E T => (ss_cons (s_if (t_not (t_tst (w_of (x_own1 T (c_law_one_state Y) (by decide) rfl (xa_cons (x_var (pv 2) rfl) (xa_cons (x_var (pv 3) rfl) xa_nil)))) (by intro _; rfl))) (ss_one (s_ret (x_isN (w_of (x_var (pv 0) rfl))))) ss_nil)
  (ss_cons (s_if (t_not (t_tst (w_of (x_own1 T (c_law_good_row Y) (by decide) rfl (xa_cons (x_var (pv 0) rfl) (xa_cons (x_var (pv 1) rfl) xa_nil)))) (by intro _; rfl))) (ss_one (s_ret x_bl)) ss_nil)
  (ss_cons (s_for T.po T.calm (i_rng1 rfl (Y.free 9) (x_b1 v_len n_len rfl (Y.free 2) hv_len (w_of (x_idx T.ix (w_of (x_var (pv 3) rfl)) (w_of x_int))))) (g_nm (pg_name (i := 4) T.nd rfl (Or.inl rfl)) rfl) (ss_one (s_if (t_cmp T.ne n_ne b_ne (w_of (x_own1 T (c_law_bit Y) (by decide) rfl (xa_cons (x_var (pv 0) rfl) (xa_cons (x_var (pv 4) rfl) xa_nil)))) (w_of (x_idx T.ix (w_of (x_idx T.ix (w_of (x_var (pv 3) rfl)) (w_of x_int))) (w_of (x_var (pv 4) rfl)))) rfl) (ss_one (s_ret x_bl)) ss_nil)))
  (ss_one (s_ret x_bl))))))
theorem S_Builder_init : FnScope N_Builder_init ["self", "inputs"] sc_Builder_init := ⟨rfl, rfl, rfl, by decide +kernel, rfl, by decide +kernel, by decide +kernel⟩
theorem c_Builder (Y : Fs P w K mg) : MakeN P w K mg base 1 "Builder" 2 m_Builder :=
  cls_okN (name := "__init__") (qual := "Builder.__init__") (params := defArgs st_Builder_init) (body := defBody st_Builder_init) (scope := sc_Builder_init) (f := He.ma K (ca K "Builder") "__init__") (N := N_Builder_init) (p := 2) (m := b_Builder_init) (k := 0) (ow := ow_Builder_init) (Y.def_ 16) (Y.glo 31) (Y.mkr 32 (x := "Builder")) S_Builder_init rfl rfl rfl (by decide) (by decide) (fun _ _ _ _ _ _ us hl => match us, hl with | [_, _], _ => rfl) (fun cdv A outer s H E T => (ss_cons (s_setF (att_ok (Y.more 7)) (ps_fld (pv 0) (x_var (pv 1) rfl) rfl) rfl)
  (ss_cons (s_setFN (att_ok (Y.more 8)) (ps_fld (pv 0) (f_lst xa_nil) rfl) rfl)
  (ss_one (s_setFN (att_ok (Y.more 9)) (ps_fld (pv 0) (f_dic0 true) rfl) rfl)))))
theorem S_Builder_put : FnScope N_Builder_put ["self", "deed"] sc_Builder_put := ⟨rfl, rfl, rfl, by decide +kernel, rfl, by decide +kernel, by decide +kernel⟩
theorem c_Builder_put (Y : Fs P w K mg) : MethL P w K mg base 1 "Builder" "put" 2 m_Builder_put :=
  meth_defL (d := d_Builder_put) (N := N_Builder_put) (ps := ["self", "deed"]) (p := 2) (m := b_Builder_put) (k := 0) (ow := ow_Builder_put) (oN := owS [0]) (oB := owS [0]) (Y.def_ 17) (Y.cls 33) (Y.meth 34) S_Builder_put rfl rfl rfl rfl (by decide) (fun _ _ _ _ _ _ us hl => match us, hl with | [_, _], _ => rfl) (fun cdv A outer s H E T => (c_cons (o1 := owS [0]) (c_if (t_cmp T.nin n_notin b_notin (w_of (x_var (pv 1) rfl)) (x_attrW (att_ok (Y.more 9)) (x_own (pv 0))) rfl) (c_cons (o1 := owS [0]) (s_up (s_setFD (i := 0) (att_ok (Y.more 9) _ (List.mem_singleton.mpr rfl)) (ps_asg (x_bin y_add n_add (w_of (x_attr (att_ok (Y.more 7)) (x_own (pv 0)))) (w_of (x_b1 v_len n_len rfl (Y.free 2) hv_len (x_attrW (att_ok (Y.more 8)) (x_own (pv 0)))))) (pg_sub (pe_fld (pv 0) rfl) (x_var (pv 1) rfl) T.st)) rfl (by decide)) (owS_le (by decide)) (by decide))
  (c_one (s_up (s_appF1 (i := 0) (att_ok (Y.more 8) _ (List.mem_singleton.mpr rfl)) (pv 0) (x_var (pv 1) rfl) rfl (by decide)) (owS_le (by decide)) (by decide)))) (c_cut (o1 := owS [0]) c_nil (owS_le (by decide)) (by decide)))
  (c_one (s_up (s_retL (x_up (x_idx T.ix (x_attrW (att_ok (Y.more 9)) (x_own (pv 0))) (w_of (x_var (pv 1) rfl)))) rfl) (owS_le (by decide)) (by decide)))))
theorem S_Builder_ones : FnScope N_Builder_ones ["self"] sc_Builder_ones := ⟨rfl, rfl, rfl, by decide +kernel, rfl, by decide +kernel, by decide +kernel⟩
theorem c_Builder_ones (Y : Fs P w K mg) : MethL P w K mg base 2 "Builder" "ones" 1 m_Builder_ones :=
  meth_defL (d := d_Builder_ones) (N := N_Builder_ones) (ps := ["self"]) (p := 1) (m := b_Builder_ones) (k := 1) (ow := ow_Builder_ones) (oN := owS [0]) (oB := owS [0]) (Y.def_ 18) (Y.cls 33) (Y.meth 35) S_Builder_ones rfl rfl rfl rfl (by decide) (fun _ _ _ _ _ _ us hl => match us, hl with | [_], _ => rfl) (fun cdv A outer s H E T => (c_one (s_up (s_retL (x_lendM (mn := "put") rfl T (c_Builder_put Y) (by decide) (fun _ _ _ _ _ h => h) (pv 0) rfl (xx_cons (x_up (x_tup (xa_cons (x_str (s := "ones")) xa_nil))) xx_nil)) rfl) (owS_le (by decide)) (by decide))))
theorem S_are_values : FnScope N_are_values ["numbers", "many"] sc_are_values := ⟨rfl, rfl, rfl, by decide +kernel, rfl, by decide +kernel, by decide +kernel⟩
theorem c_are_values (Y : Fs P w K mg) : CallOk P w K mg base 3 "are_values" d_are_values ["numbers", "many"] 2 m_are_values :=
  def_ok (d := d_are_values) (N := N_are_values) (ps := ["numbers", "many"]) (p := 2) (m := b_are_values) (k := 2) (ow := ow_are_values) (Y.def_ 19) (Y.glo 36) S_are_values rfl rfl (by decide) (fun _ _ _ _ _ _ us hl => match us, hl with | [_, _], _ => rfl) (fun cdv A outer s H E T => (ss_one (s_ret (x_b1 (v_all T.calm) n_all rfl (Y.free 7) hv_all (w_of (e_of (f_lc (own := [("number", 2)]) T (i_gr (i_seq (x_var (pv 0) rfl))) (blkOk_by (N := N_are_values) (sc := sc_are_values) (own := [("number", 2)]) (by decide +kernel)) (fun _ _ _ _ _ T1 => (g_nm (pg_name (i := 2) T1.nd rfl (Or.inl rfl)) rfl)) (fun _ _ _ _ _ T1 => ts_nil) (fun _ _ _ _ _ T1 => (x_own1 T1 (c_is_below Y) (by decide) rfl (xa_cons (x_var (pv 2) rfl) (xa_cons (x_var (pv 1) rfl) xa_nil)))) (by decide))))))))
theorem S_is_count_deed : FnScope N_is_count_deed ["value", "many"] sc_is_count_deed := ⟨rfl, rfl, rfl, by decide +kernel, rfl, by decide +kernel, by decide +kernel⟩
theorem c_is_count_deed (Y : Fs P w K mg) : CallOk P w K mg base 4 "is_count_deed" d_is_count_deed ["value", "many"] 2 m_is_count_deed :=
  def_ok (d := d_is_count_deed) (N := N_is_count_deed) (ps := ["value", "many"]) (p := 2) (m := b_is_count_deed) (k := 3) (ow := ow_is_count_deed) (Y.def_ 20) (Y.glo 37) S_is_count_deed rfl rfl (by decide) (fun _ _ _ _ _ _ us hl => match us, hl with | [_, _], _ => rfl) (fun cdv A outer s H E T => (ss_cons (s_if (t_cmp T.ne n_ne b_ne (w_of (x_b1 v_len n_len rfl (Y.free 2) hv_len (w_of (x_var (pv 0) rfl)))) (w_of x_int) rfl) (ss_one (s_ret x_bl)) ss_nil)
  (ss_cons (s_gen (ps_asg (x_slc (w_of (x_var (pv 0) rfl)) (o_some x_int) o_none) (g_tup T.calm (gs_cons (g_nm (pg_name (i := 2) T.nd rfl (Or.inl rfl)) rfl) (gs_cons (g_nm (pg_name (i := 3) T.nd rfl (Or.inl rfl)) rfl) (gs_cons (g_nm (pg_name (i := 4) T.nd rfl (Or.inl rfl)) rfl) gs_nil))))))
  (ss_cons (s_if (PW.pt (t_or (t_not (t_tst (w_of (x_own1 T (c_is_integer Y) (by decide) rfl (xa_cons (x_var (pv 2) rfl) xa_nil))) (by intro _; rfl))) (t_or (t_cmp T.nin n_notin b_notin (w_of (x_var (pv 2) rfl)) (w_of (x_tup (xa_cons x_int (xa_cons x_int (xa_cons x_int xa_nil))))) rfl) (t_or1 (t_not (t_tst (w_of (x_own1 T (c_is_below Y) (by decide) rfl (xa_cons (x_var (pv 3) rfl) (xa_cons (x_var (pv 2) rfl) xa_nil)))) (by intro _; rfl))))))) (ss_one (s_ret x_bl)) ss_nil)
  (ss_one (s_ret (x_and (x_isi1 (cs := CS) (t := .tup) rfl (kit_of_b (Y.more 5)) rfl (Y.free 3) (w_of (x_var (pv 4) rfl)) (pe_bltn rfl (Y.free 1) hv_tuple rfl)) (x_and (x_chain y_le y_le n_le n_le (w_of x_int) (w_of (x_b1 v_len n_len rfl (Y.free 2) hv_len (w_of (x_var (pv 4) rfl)))) (w_of x_int)) (x_one (x_own1 T (c_are_values Y) (by decide) rfl (xa_cons (x_var (pv 4) rfl) (xa_cons (x_var (pv 1) rfl) xa_nil))))))))))))
theorem S_is_deed : FnScope N_is_deed ["value", "many"] sc_is_deed := ⟨rfl, rfl, rfl, by decide +kernel, rfl, by decide +kernel, by decide +kernel⟩
theorem c_is_deed (Y : Fs P w K mg) : CallOk P w K mg base 5 "is_deed" d_is_deed ["value", "many"] 2 m_is_deed :=
  def_ok (d := d_is_deed) (N := N_is_deed) (ps := ["value", "many"]) (p := 2) (m := b_is_deed) (k := 4) (ow := ow_is_deed) (Y.def_ 21) (Y.glo 38) S_is_deed rfl rfl (by decide) (fun _ _ _ _ _ _ us hl => match us, hl with | [_, _], _ => rfl) (fun cdv A outer s H E T => (ss_cons (s_if (PW.pt (t_or (t_not (t_tst (w_of (x_isi1 (cs := CS) (t := .tup) rfl (kit_of_b (Y.more 5)) rfl (Y.free 3) (w_of (x_var (pv 0) rfl)) (pe_bltn rfl (Y.free 1) hv_tuple rfl))) (by intro _; rfl))) (t_or (t_not (t_tst (w_of (x_var (pv 0) rfl)) (by intro _; rfl))) (t_or1 (t_not (t_tst (w_of (x_isi1 (cs := CS) (t := .str) rfl (kit_of_b (Y.more 5)) rfl (Y.free 3) (w_of (x_idx T.ix (w_of (x_var (pv 0) rfl)) (w_of x_int))) (pe_bltn rfl (Y.free 11) hv_str rfl))) (by intro _; rfl))))))) (ss_one (s_ret x_bl)) ss_nil)
  (ss_cons (s_if (t_cmp T.eq n_eq b_eq (w_of (x_idx T.ix (w_of (x_var (pv 0) rfl)) (w_of x_int))) (w_of (x_str (s := "count"))) rfl) (ss_one (s_ret (x_own1 T (c_is_count_deed Y) (by decide) rfl (xa_cons (x_var (pv 0) rfl) (xa_cons (x_var (pv 1) rfl) xa_nil))))) ss_nil)
  (ss_cons (s_if (PW.pt (t_or (t_nothas (Y.tab 0 11 12) rfl (x_idx T.ix (w_of (x_var (pv 0) rfl)) (w_of x_int))) (t_or1 (t_cmp T.ne n_ne b_ne (w_of (x_b1 v_len n_len rfl (Y.free 2) hv_len (w_of (x_var (pv 0) rfl)))) (w_of (x_bin y_add n_add (w_of (x_look (Y.tab 0 11 12) rfl (x_idx T.ix (w_of (x_var (pv 0) rfl)) (w_of x_int)))) (w_of x_int))) rfl)))) (ss_one (s_ret x_bl)) ss_nil)
  (ss_one (s_ret (x_own1 T (c_are_values Y) (by decide) rfl (xa_cons (x_slc (w_of (x_var (pv 0) rfl)) (o_some x_int) o_none) (xa_cons (x_var (pv 1) rfl) xa_nil)))))))))
theorem S_Row_init : FnScope N_Row_init ["self", "inputs", "deeds", "out"] sc_Row_init := ⟨rfl, rfl, rfl, by decide +kernel, rfl, by decide +kernel, by decide +kernel⟩
theorem c_Row (Y : Fs P w K mg) : MakeOk P w K mg base 6 "Row" 4 m_Row :=
  cls_ok (name := "__init__") (qual := "Row.__init__") (params := defArgs st_Row_init) (body := defBody st_Row_init) (scope := sc_Row_init) (f := He.ma K (ca K "Row") "__init__") (N := N_Row_init) (p := 4) (m := b_Row_init) (k := 5) (ow := ow_Row_init) (Y.def_ 22) (Y.glo 10) (Y.mkr 39 (x := "Row")) S_Row_init rfl rfl rfl (by decide) (by decide) (fun _ _ _ _ _ _ us hl => match us, hl with | [_, _, _, _], _ => rfl) (fun cdv A outer s H E T => (ss_cons (s_if (t_not (t_tst (w_of (x_own1 T (c_is_inputs Y) (by decide) rfl (xa_cons (x_var (pv 1) rfl) xa_nil))) (by intro _; rfl))) (ss_one (s_raise T (er_InvalidRow Y) (by decide) rfl (xa_cons (x_str (s := "inputs")) (xa_cons x_int xa_nil)))) ss_nil)
  (ss_cons (s_set (ps_set (i := 4) T.nd rfl (Or.inl rfl) (x_own1 T (c_as_tuple Y) (by decide) rfl (xa_cons (x_var (pv 2) rfl) xa_nil))) rfl)
  (ss_cons (s_if (t_isN (w_of (x_var (pv 4) rfl))) (ss_one (s_raise T (er_InvalidRow Y) (by decide) rfl (xa_cons (x_str (s := "deeds")) (xa_cons x_int xa_nil)))) ss_nil)
  (ss_cons (s_for T.po T.calm (i_enum rfl (Y.free 6) (x_var (pv 4) rfl)) (g_tup T.calm (gs_cons (g_nm (pg_name (i := 5) T.nd rfl (Or.inl rfl)) rfl) (gs_cons (g_nm (pg_name (i := 6) T.nd rfl (Or.inl rfl)) rfl) gs_nil))) (ss_one (s_if (t_not (t_tst (w_of (x_own1 T (c_is_deed Y) (by decide) rfl (xa_cons (x_var (pv 6) rfl) (xa_cons (x_bin y_add n_add (w_of (x_var (pv 1) rfl)) (w_of (x_var (pv 5) rfl))) xa_nil)))) (by intro _; rfl))) (ss_one (s_raise T (er_InvalidRow Y) (by decide) rfl (xa_cons (x_str (s := "deeds")) (xa_cons (x_var (pv 5) rfl) xa_nil)))) ss_nil)))
  (ss_cons (s_if (t_not (t_tst (w_of (x_own1 T (c_is_below Y) (by decide) rfl (xa_cons (x_var (pv 3) rfl) (xa_cons (x_bin y_add n_add (w_of (x_var (pv 1) rfl)) (w_of (x_b1 v_len n_len rfl (Y.free 2) hv_len (w_of (x_var (pv 4) rfl))))) xa_nil)))) (by intro _; rfl))) (ss_one (s_raise T (er_InvalidRow Y) (by decide) rfl (xa_cons (x_str (s := "out")) (xa_cons x_int xa_nil)))) ss_nil)
  (ss_cons (s_setF (att_ok (Y.more 10)) (ps_fld (pv 0) (x_var (pv 1) rfl) rfl) rfl)
  (ss_cons (s_setF (att_ok (Y.more 0)) (ps_fld (pv 0) (x_var (pv 4) rfl) rfl) rfl)
  (ss_one (s_setF (att_ok (Y.more 1)) (ps_fld (pv 0) (x_var (pv 3) rfl) rfl) rfl))))))))))
theorem S_values_within : FnScope N_values_within ["deed"] sc_values_within := ⟨rfl, rfl, rfl, by decide +kernel, rfl, by decide +kernel, by decide +kernel⟩
theorem c_values_within (Y : Fs P w K mg) : CallOk P w K mg base 1 "values_within" d_values_within ["deed"] 1 m_values_within :=
  def_ok (d := d_values_within) (N := N_values_within) (ps := ["deed"]) (p := 1) (m := b_values_within) (k := 0) (ow := ow_values_within) (Y.def_ 23) (Y.glo 40) S_values_within rfl rfl (by decide) (fun _ _ _ _ _ _ us hl => match us, hl with | [_], _ => rfl) (fun cdv A outer s H E T => (ss_cons (s_if (t_cmp T.eq n_eq b_eq (w_of (x_idx T.ix (w_of (x_var (pv 0) rfl)) (w_of x_int))) (w_of (x_str (s := "count"))) rfl) (ss_one (s_ret (x_idx T.ix (w_of (x_var (pv 0) rfl)) (w_of x_int)))) ss_nil)
  (ss_one (s_ret (x_slc (w_of (x_var (pv 0) rfl)) (o_some x_int) o_none)))))
theorem S_with_values : FnScope N_with_values ["deed", "numbers"] sc_with_values := ⟨rfl, rfl, rfl, by decide +kernel, rfl, by decide +kernel, by decide +kernel⟩
theorem c_with_values (Y : Fs P w K mg) : CallOk P w K mg base 1 "with_values" d_with_values ["deed", "numbers"] 2 m_with_values :=
  def_ok (d := d_with_values) (N := N_with_values) (ps := ["deed", "numbers"]) (p := 2) (m := b_with_values) (k := 0) (ow := ow_with_values) (Y.def_ 24) (Y.glo 41) S_with_values rfl rfl (by decide) (fun _ _ _ _ _ _ us hl => match us, hl with | [_, _], _ => rfl) (fun cdv A outer s H E T => (ss_cons (s_if (t_cmp T.eq n_eq b_eq (w_of (x_idx T.ix (w_of (x_var (pv 0) rfl)) (w_of x_int))) (w_of (x_str (s := "count"))) rfl) (ss_one (s_ret (x_tup (xa_star (x_slc (w_of (x_var (pv 0) rfl)) o_none (o_some x_int)) (xa_cons (x_t1 v_tuple n_tuple rfl (Y.free 1) hv_tuple (w_of (x_var (pv 1) rfl))) xa_nil))))) ss_nil)
  (ss_one (s_ret (x_tup (xa_cons (x_idx T.ix (w_of (x_var (pv 0) rfl)) (w_of x_int)) (xa_star (x_var (pv 1) rfl) xa_nil)))))))
theorem S_Builder_row : FnScope N_Builder_row ["self", "out"] sc_Builder_row := ⟨rfl, rfl, rfl, by decide +kernel, rfl, by decide +kernel, by decide +kernel⟩
theorem c_Builder_row (Y : Fs P w K mg) : MethOk P w K mg base 8 "Builder" "row" 2 m_Builder_row :=
  meth_def (d := d_Builder_row) (N := N_Builder_row) (ps := ["self", "out"]) (p := 2) (m := b_Builder_row) (k := 7) (ow := ow_Builder_row) (oN := owS []) (oB := owS []) (Y.def_ 25) (Y.cls 33) (Y.meth 42) S_Builder_row rfl rfl (by decide) (fun _ _ _ _ _ _ us hl => match us, hl with | [_, _], _ => rfl) (fun cdv A outer s H E T => (c_cons (o1 := owS [2]) (c_own (ps_set (i := 2) T.nd rfl (Or.inl rfl) (f_dicK (x_var (pv 1) rfl) x_bl)) rfl (owS_add (by decide)))
  (c_cons (o1 := owS [2]) (s_up (s_for T.po T.calm (i_rng3 rfl (Y.free 9) (x_bin y_sub n_sub (w_of (x_bin y_add n_add (w_of (x_attr (att_ok (Y.more 7)) (w_of (x_var (pv 0) rfl)))) (w_of (x_b1 v_len n_len rfl (Y.free 2) hv_len (w_of (x_attrE (att_ok (Y.more 8)) (x_var (pv 0) rfl))))))) (w_of x_int)) (x_bin y_sub n_sub (w_of (x_attr (att_ok (Y.more 7)) (w_of (x_var (pv 0) rfl)))) (w_of x_int)) (x_un y_neg n_neg (w_of x_int))) (g_nm (pg_name (i := 3) T.nd rfl (Or.inl rfl)) rfl) (c_one (c_if (t_cmp T.inn n_in b_in (w_of (x_var (pv 3) rfl)) (x_own (pv 2)) rfl) (c_one (s_up (s_for T.po T.calm (i_seq (x_own1 T (c_values_within Y) (by decide) rfl (xa_cons (x_idx T.ix (w_of (x_attrE (att_ok (Y.more 8)) (x_var (pv 0) rfl))) (w_of (x_bin y_sub n_sub (w_of (x_var (pv 3) rfl)) (w_of (x_attr (att_ok (Y.more 7)) (w_of (x_var (pv 0) rfl))))))) xa_nil))) (g_nm (pg_name (i := 4) T.nd rfl (Or.inl rfl)) rfl) (c_one (s_up (s_setL (i := 2) (ps_asg x_bl (pg_sub (pv 2) (x_var (pv 4) rfl) T.st)) rfl) (owS_le (by decide)) (by decide)))) (owS_le (by decide)) (by decide))) (c_cut (o1 := owS [2]) c_nil (owS_le (by decide)) (by decide))))) (owS_le (by decide)) (by decide))
  (c_cut (o1 := owS []) (c_cons (o1 := owS [5]) (c_own (ps_set (i := 5) T.nd rfl (Or.inr rfl) (f_dc (own := [("i", 9)]) false T (i_gr (i_rng1 rfl (Y.free 9) (x_attr (att_ok (Y.more 7)) (w_of (x_var (pv 0) rfl))))) (blkOk_by (N := N_Builder_row) (sc := sc_Builder_row) (own := [("i", 9)]) (by decide +kernel)) (fun _ _ _ _ _ T1 => (g_nm (pg_name (i := 9) T1.nd rfl (Or.inl rfl)) rfl)) (fun _ _ _ _ _ T1 => ts_nil) (fun _ _ _ _ _ T1 => (x_var (pv 9) rfl)) (fun _ _ _ _ _ T1 => (x_var (pv 9) rfl)) (by decide))) rfl (owS_add (by decide)))
  (c_cons (o1 := owS [5, 6]) (c_own (ps_set (i := 6) T.nd rfl (Or.inl rfl) (f_lst xa_nil)) rfl (owS_add (by decide)))
  (c_cons (o1 := owS [5, 6]) (s_up (s_for T.po T.calm (i_enum rfl (Y.free 6) (x_attrE (att_ok (Y.more 8)) (x_var (pv 0) rfl))) (g_tup T.calm (gs_cons (g_nm (pg_name (i := 7) T.nd rfl (Or.inl rfl)) rfl) (gs_cons (g_nm (pg_name (i := 8) T.nd rfl (Or.inl rfl)) rfl) gs_nil))) (c_one (c_if (t_cmp T.inn n_in b_in (w_of (x_bin y_add n_add (w_of (x_attr (att_ok (Y.more 7)) (w_of (x_var (pv 0) rfl)))) (w_of (x_var (pv 7) rfl)))) (w_of (x_var (pv 2) rfl)) rfl) (c_cons (o1 := owS [5, 6]) (s_up (s_setL (i := 5) (ps_asg (x_bin y_add n_add (w_of (x_attr (att_ok (Y.more 7)) (w_of (x_var (pv 0) rfl)))) (w_of (x_b1 v_len n_len rfl (Y.free 2) hv_len (x_own (pv 6))))) (pg_sub (pv 5) (x_bin y_add n_add (w_of (x_attr (att_ok (Y.more 7)) (w_of (x_var (pv 0) rfl)))) (w_of (x_var (pv 7) rfl))) T.st)) rfl) (owS_le (by decide)) (by decide))
  (c_one (s_up (s_app1 (i := 6) (pv 6) (x_own1 T (c_with_values Y) (by decide) rfl (xa_cons (x_var (pv 8) rfl) (xa_cons (e_of (f_lc (own := [("value", 4)]) T (i_gr (i_seq (x_own1 T (c_values_within Y) (by decide) rfl (xa_cons (x_var (pv 8) rfl) xa_nil)))) (blkOk_by (N := N_Builder_row) (sc := sc_Builder_row) (own := [("value", 4)]) (by decide +kernel)) (fun _ _ _ _ _ T2 => (g_nm (pg_name (i := 4) T2.nd rfl (Or.inl rfl)) rfl)) (fun _ _ _ _ _ T2 => ts_nil) (fun _ _ _ _ _ T2 => (x_idx T2.ix (x_own (pv 5)) (w_of (x_var (pv 4) rfl)))) (by decide))) xa_nil))) rfl) (owS_le (by decide)) (by decide)))) (c_cut (o1 := owS [5, 6]) c_nil (owS_le (by decide)) (by decide))))) (owS_le (by decide)) (by decide))
  (c_cut (o1 := owS []) (c_one (s_up (s_ret (x_new (cls := "Row") T (c_Row Y) (by decide) rfl (xa_cons (x_attr (att_ok (Y.more 7)) (w_of (x_var (pv 0) rfl))) (xa_cons (x_t1 v_tuple n_tuple rfl (Y.free 1) hv_tuple (w_of (x_var (pv 6) rfl))) (xa_cons (x_idx T.ix (w_of (x_var (pv 5) rfl)) (w_of (x_var (pv 1) rfl))) xa_nil))))) (owS_le (by decide)) (by decide))) (owS_le (by decide)) (by decide))))) (owS_le (by decide)) (by decide)))))
theorem S_numbered : FnScope N_numbered ["keys"] sc_numbered := ⟨rfl, rfl, rfl, by decide +kernel, rfl, by decide +kernel, by decide +kernel⟩
theorem c_numbered (Y : Fs P w K mg) : CallOk P w K mg base 1 "numbered" d_numbered ["keys"] 1 m_numbered :=
  def_ok (d := d_numbered) (N := N_numbered) (ps := ["keys"]) (p := 1) (m := b_numbered) (k := 0) (ow := ow_numbered) (oN := owS []) (oB := owS []) (Y.def_ 26) (Y.glo 43) S_numbered rfl rfl (by decide) (fun _ _ _ _ _ _ us hl => match us, hl with | [_], _ => rfl) (fun cdv A outer s H E T => (c_cons (o1 := owS [1]) (c_own (ps_set (i := 1) T.nd rfl (Or.inl rfl) (f_dic0 true)) rfl (owS_add (by decide)))
  (c_cons (o1 := owS [1, 2]) (c_own (ps_set (i := 2) T.nd rfl (Or.inl rfl) (f_lst xa_nil)) rfl (owS_add (by decide)))
  (c_cons (o1 := owS [1, 2]) (s_up (s_for T.po T.calm (i_seq (x_var (pv 0) rfl)) (g_nm (pg_name (i := 3) T.nd rfl (Or.inl rfl)) rfl) (c_cons (o1 := owS [1, 2]) (c_if (t_cmp T.nin n_notin b_notin (w_of (x_var (pv 3) rfl)) (x_own (pv 1)) rfl) (c_one (s_up (s_setL (i := 1) (ps_asg (x_b1 v_len n_len rfl (Y.free 2) hv_len (x_own (pv 1))) (pg_sub (pv 1) (x_var (pv 3) rfl) T.st)) rfl) (owS_le (by decide)) (by decide))) (c_cut (o1 := owS [1, 2]) c_nil (owS_le (by decide)) (by decide)))
  (c_one (s_up (s_app1 (i := 2) (pv 2) (x_idx T.ix (x_own (pv 1)) (w_of (x_var (pv 3) rfl))) rfl) (owS_le (by decide)) (by decide))))) (owS_le (by decide)) (by decide))
  (c_cut (o1 := owS []) (c_one (s_up (s_ret (x_var (pv 2) rfl)) (owS_le (by decide)) (by decide))) (owS_le (by decide)) (by decide))))))
theorem S_state_classes : FnScope N_state_classes ["machine"] sc_state_classes := ⟨rfl, rfl, rfl, by decide +kernel, rfl, by decide +kernel, by decide +kernel⟩
theorem c_state_classes (Y : Fs P w K mg) : CallOk P w K mg base 2 "state_classes" d_state_classes ["machine"] 1 m_state_classes :=
  def_ok (d := d_state_classes) (N := N_state_classes) (ps := ["machine"]) (p := 1) (m := b_state_classes) (k := 1) (ow := ow_state_classes) (oN := owS []) (oB := owS []) (Y.def_ 27) (Y.glo 44) S_state_classes rfl rfl (by decide) (fun _ _ _ _ _ _ us hl => match us, hl with | [_], _ => rfl) (fun cdv A outer s H E T => (c_cons (o1 := owS []) (s_up (s_set (ps_set (i := 1) T.nd rfl (Or.inr rfl) (x_own1 T (c_numbered Y) (by decide) rfl (xa_cons (e_of (f_list rfl rfl (Y.free 0) (w_of (x_attr (att_ok (Y.more 4)) (w_of (x_var (pv 0) rfl)))))) xa_nil))) rfl) (owS_le (by decide)) (by decide))
  (c_one (s_up (s_while T.po (t_tst (w_of x_bl) (by intro _; rfl)) (c_cons (o1 := owS [2]) (c_own (ps_set (i := 2) T.nd rfl (Or.inl rfl) (f_lst xa_nil)) rfl (owS_add (by decide)))
  (c_cons (o1 := owS [2]) (s_up (s_for T.po T.calm (i_enum rfl (Y.free 6) (x_attr (att_ok (Y.more 3)) (w_of (x_var (pv 0) rfl)))) (g_tup T.calm (gs_cons (g_nm (pg_name (i := 3) T.nd rfl (Or.inl rfl)) rfl) (gs_cons (g_nm (pg_name (i := 4) T.nd rfl (Or.inl rfl)) rfl) gs_nil))) (c_one (s_up (s_app1 (i := 2) (pv 2) (x_tup (xa_cons (x_idx T.ix (w_of (x_var (pv 1) rfl)) (w_of (x_var (pv 3) rfl))) (xa_cons (x_t1 v_tuple n_tuple rfl (Y.free 1) hv_tuple (w_of (e_of (f_lc (own := [("goal", 6)]) T (i_gr (i_seq (x_var (pv 4) rfl))) (blkOk_by (N := N_state_classes) (sc := sc_state_classes) (own := [("goal", 6)]) (by decide +kernel)) (fun _ _ _ _ _ T1 => (g_nm (pg_name (i := 6) T1.nd rfl (Or.inl rfl)) rfl)) (fun _ _ _ _ _ T1 => ts_nil) (fun _ _ _ _ _ T1 => (x_idx T1.ix (w_of (x_var (pv 1) rfl)) (w_of (x_var (pv 6) rfl)))) (by decide))))) xa_nil))) rfl) (owS_le (by decide)) (by decide)))) (owS_le (by decide)) (by decide))
  (c_cut (o1 := owS []) (c_cons (o1 := owS []) (s_up (s_set (ps_set (i := 5) T.nd rfl (Or.inl rfl) (x_own1 T (c_numbered Y) (by decide) rfl (xa_cons (x_var (pv 2) rfl) xa_nil))) rfl) (owS_le (by decide)) (by decide))
  (c_cons (o1 := owS []) (c_if (t_cmp T.eq n_eq b_eq (w_of (x_b1 (v_maxL T.calm) n_maxL rfl (Y.free 13) hv_max (w_of (x_var (pv 5) rfl)))) (w_of (x_b1 (v_maxL T.calm) n_maxL rfl (Y.free 13) hv_max (w_of (x_var (pv 1) rfl)))) rfl) (c_one (s_up (s_ret (x_var (pv 1) rfl)) (owS_le (by decide)) (by decide))) (c_cut (o1 := owS []) c_nil (owS_le (by decide)) (by decide)))
  (c_one (s_up (s_set (ps_set (i := 1) T.nd rfl (Or.inr rfl) (x_var (pv 5) rfl)) rfl) (owS_le (by decide)) (by decide))))) (owS_le (by decide)) (by decide))))) (owS_le (by decide)) (by decide)))))
theorem S_least_machine : FnScope N_least_machine ["machine"] sc_least_machine := ⟨rfl, rfl, rfl, by decide +kernel, rfl, by decide +kernel, by decide +kernel⟩
theorem c_least_machine (Y : Fs P w K mg) : CallOk P w K mg base 7 "least_machine" d_least_machine ["machine"] 1 m_least_machine :=
  def_ok (d := d_least_machine) (N := N_least_machine) (ps := ["machine"]) (p := 1) (m := b_least_machine) (k := 6) (ow := ow_least_machine) (oN := owS []) (oB := owS []) (Y.def_ 28) (Y.glo 45) S_least_machine rfl rfl (by decide) (fun _ _ _ _ _ _ us hl => match us, hl with | [_], _ => rfl) (fun cdv A outer s H E T => (c_cons (o1 := owS []) (s_up (s_set (ps_set (i := 1) T.nd rfl (Or.inl rfl) (x_own1 T (c_state_classes Y) (by decide) rfl (xa_cons (x_var (pv 0) rfl) xa_nil))) rfl) (owS_le (by decide)) (by decide))
  (c_cons (o1 := owS [2]) (c_own (ps_set (i := 2) T.nd rfl (Or.inl rfl) (f_lst (xa_cons x_int xa_nil))) rfl (owS_add (by decide)))
  (c_cons (o1 := owS [2, 3]) (c_own (ps_set (i := 3) T.nd rfl (Or.inl rfl) (f_dicK (x_idx T.ix (w_of (x_var (pv 1) rfl)) (w_of x_int)) x_int)) rfl (owS_add (by decide)))
  (c_cons (o1 := owS [2, 3, 4]) (c_own (ps_set (i := 4) T.nd rfl (Or.inl rfl) (f_lst xa_nil)) rfl (owS_add (by decide)))
  (c_cons (o1 := owS [2, 3, 4]) (s_up (s_while T.po (t_cmp y_lt n_lt b_lt (w_of (x_b1 v_len n_len rfl (Y.free 2) hv_len (x_own (pv 4)))) (w_of (x_b1 v_len n_len rfl (Y.free 2) hv_len (x_own (pv 2)))) rfl) (c_cons (o1 := owS [2, 3, 4, 5]) (c_own (ps_set (i := 5) T.nd rfl (Or.inl rfl) (f_lst xa_nil)) rfl (owS_add (by decide)))
  (c_cons (o1 := owS [2, 3, 4, 5]) (s_up (s_for T.po T.calm (i_seq (x_idx T.ix (w_of (x_attr (att_ok (Y.more 3)) (w_of (x_var (pv 0) rfl)))) (w_of (x_idx T.ix (x_own (pv 2)) (w_of (x_b1 v_len n_len rfl (Y.free 2) hv_len (x_own (pv 4)))))))) (g_nm (pg_name (i := 6) T.nd rfl (Or.inl rfl)) rfl) (c_cons (o1 := owS [2, 3, 4, 5]) (c_if (t_cmp T.nin n_notin b_notin (w_of (x_idx T.ix (w_of (x_var (pv 1) rfl)) (w_of (x_var (pv 6) rfl)))) (x_own (pv 3)) rfl) (c_cons (o1 := owS [2, 3, 4, 5]) (s_up (s_setL (i := 3) (ps_asg (x_b1 v_len n_len rfl (Y.free 2) hv_len (x_own (pv 2))) (pg_sub (pv 3) (x_idx T.ix (w_of (x_var (pv 1) rfl)) (w_of (x_var (pv 6) rfl))) T.st)) rfl) (owS_le (by decide)) (by decide))
  (c_one (s_up (s_app1 (i := 2) (pv 2) (x_var (pv 6) rfl) rfl) (owS_le (by decide)) (by decide)))) (c_cut (o1 := owS [2, 3, 4, 5]) c_nil (owS_le (by decide)) (by decide)))
  (c_one (s_up (s_app1 (i := 5) (pv 5) (x_idx T.ix (x_own (pv 3)) (w_of (x_idx T.ix (w_of (x_var (pv 1) rfl)) (w_of (x_var (pv 6) rfl))))) rfl) (owS_le (by decide)) (by decide))))) (owS_le (by decide)) (by decide))
  (c_cut (o1 := owS [2, 3, 4]) (c_one (s_up (s_app1 (i := 4) (pv 4) (x_t1 v_tuple n_tuple rfl (Y.free 1) hv_tuple (w_of (x_var (pv 5) rfl))) rfl) (owS_le (by decide)) (by decide))) (owS_le (by decide)) (by decide))))) (owS_le (by decide)) (by decide))
  (c_cut (o1 := owS []) (c_one (s_up (s_ret (x_new (cls := "Machine") T (c_Machine Y) (by decide) rfl (xa_cons (x_attr (att_ok (Y.more 6)) (w_of (x_var (pv 0) rfl))) (xa_cons (x_var (pv 4) rfl) (xa_cons (e_of (f_lc (own := [("state", 7)]) T (i_gr (i_seq (x_var (pv 2) rfl))) (blkOk_by (N := N_least_machine) (sc := sc_least_machine) (own := [("state", 7)]) (by decide +kernel)) (fun _ _ _ _ _ T1 => (g_nm (pg_name (i := 7) T1.nd rfl (Or.inl rfl)) rfl)) (fun _ _ _ _ _ T1 => ts_nil) (fun _ _ _ _ _ T1 => (x_idx T1.ix (w_of (x_attr (att_ok (Y.more 4)) (w_of (x_var (pv 0) rfl)))) (w_of (x_var (pv 7) rfl)))) (by decide))) xa_nil))))) (owS_le (by decide)) (by decide))) (owS_le (by decide)) (by decide))))))))
theorem S_Builder_zero : FnScope N_Builder_zero ["self"] sc_Builder_zero := ⟨rfl, rfl, rfl, by decide +kernel, rfl, by decide +kernel, by decide +kernel⟩
theorem c_Builder_zero (Y : Fs P w K mg) : MethL P w K mg base 2 "Builder" "zero" 1 m_Builder_zero :=
  meth_defL (d := d_Builder_zero) (N := N_Builder_zero) (ps := ["self"]) (p := 1) (m := b_Builder_zero) (k := 1) (ow := ow_Builder_zero) (oN := owS [0]) (oB := owS [0]) (Y.def_ 29) (Y.cls 33) (Y.meth 46) S_Builder_zero rfl rfl rfl rfl (by decide) (fun _ _ _ _ _ _ us hl => match us, hl with | [_], _ => rfl) (fun cdv A outer s H E T => (c_one (s_up (s_retL (x_lendM (mn := "put") rfl T (c_Builder_put Y) (by decide) (fun _ _ _ _ _ h => h) (pv 0) rfl (xx_cons (x_up (x_tup (xa_cons (x_str (s := "zero")) xa_nil))) xx_nil)) rfl) (owS_le (by decide)) (by decide))))
theorem S_Builder_opposite : FnScope N_Builder_opposite ["self", "i"] sc_Builder_opposite := ⟨rfl, rfl, rfl, by decide +kernel, rfl, by decide +kernel, by decide +kernel⟩
theorem c_Builder_opposite (Y : Fs P w K mg) : MethL P w K mg base 3 "Builder" "opposite" 2 m_Builder_opposite :=
  meth_defL (d := d_Builder_opposite) (N := N_Builder_opposite) (ps := ["self", "i"]) (p := 2) (m := b_Builder_opposite) (k := 2) (ow := ow_Builder_opposite) (oN := owS [0]) (oB := owS [0]) (Y.def_ 30) (Y.cls 33) (Y.meth 47) S_Builder_opposite rfl rfl rfl rfl (by decide) (fun _ _ _ _ _ _ us hl => match us, hl with | [_, _], _ => rfl) (fun cdv A outer s H E T => (c_cons (o1 := owS [0]) (c_ifX (t_cmpX T.eq n_eq b_eq (x_up (x_var (pv 1) rfl)) (x_lendM0 (mn := "zero") rfl T (c_Builder_zero Y) (by decide) (fun _ _ _ _ _ h => h) (pv 0) rfl) rfl) (c_one (s_up (s_retL (x_lendM0 (mn := "ones") rfl T (c_Builder_ones Y) (by decide) (fun _ _ _ _ _ h => h) (pv 0) rfl) rfl) (owS_le (by decide)) (by decide))) (c_cut (o1 := owS [0]) c_nil (owS_le (by decide)) (by decide)))
  (c_cons (o1 := owS [0]) (c_ifX (t_cmpX T.eq n_eq b_eq (x_up (x_var (pv 1) rfl)) (x_lendM0 (mn := "ones") rfl T (c_Builder_ones Y) (by decide) (fun _ _ _ _ _ h => h) (pv 0) rfl) rfl) (c_one (s_up (s_retL (x_lendM0 (mn := "zero") rfl T (c_Builder_zero Y) (by decide) (fun _ _ _ _ _ h => h) (pv 0) rfl) rfl) (owS_le (by decide)) (by decide))) (c_cut (o1 := owS [0]) c_nil (owS_le (by decide)) (by decide)))
  (c_cons (o1 := owS [0]) (c_if (PW.pt (t_and (t_cmp y_ge n_ge b_ge (w_of (x_var (pv 1) rfl)) (w_of (x_attr (att_ok (Y.more 7)) (x_own (pv 0)))) rfl) (t_and1 (t_cmp T.eq n_eq b_eq (w_of (x_idx T.ix (w_of (x_idx T.ix (x_attrW (att_ok (Y.more 8)) (x_own (pv 0))) (w_of (x_bin y_sub n_sub (w_of (x_var (pv 1) rfl)) (w_of (x_attr (att_ok (Y.more 7)) (x_own (pv 0)))))))) (w_of x_int))) (w_of (x_str (s := "not"))) rfl)))) (c_one (s_up (s_retL (x_up (x_idx T.ix (w_of (x_idx T.ix (x_attrW (att_ok (Y.more 8)) (x_own (pv 0))) (w_of (x_bin y_sub n_sub (w_of (x_var (pv 1) rfl)) (w_of (x_attr (att_ok (Y.more 7)) (x_own (pv 0)))))))) (w_of x_int))) rfl) (owS_le (by decide)) (by decide))) (c_cut (o1 := owS [0]) c_nil (owS_le (by decide)) (by decide)))
  (c_one (s_up (s_retL (x_lendM (mn := "put") rfl T (c_Builder_put Y) (by decide) (fun _ _ _ _ _ h => h) (pv 0) rfl (xx_cons (x_up (x_tup (xa_cons (x_str (s := "not")) (xa_cons (x_var (pv 1) rfl) xa_nil)))) xx_nil)) rfl) (owS_le (by decide)) (by decide)))))))
theorem S_Builder_both_of : FnScope N_Builder_both_of ["self", "i", "j"] sc_Builder_both_of := ⟨rfl, rfl, rfl, by decide +kernel, rfl, by decide +kernel, by decide +kernel⟩
theorem c_Builder_both_of (Y : Fs P w K mg) : MethL P w K mg base 4 "Builder" "both_of" 3 m_Builder_both_of :=
  meth_defL (d := d_Builder_both_of) (N := N_Builder_both_of) (ps := ["self", "i", "j"]) (p := 3) (m := b_Builder_both_of) (k := 3) (ow := ow_Builder_both_of) (oN := owS [0]) (oB := owS [0]) (Y.def_ 31) (Y.cls 33) (Y.meth 48) S_Builder_both_of rfl rfl rfl rfl (by decide) (fun _ _ _ _ _ _ us hl => match us, hl with | [_, _, _], _ => rfl) (fun cdv A outer s H E T => (c_cons (o1 := owS [0]) (c_ifX (PW.pt (t_orX (x_upT (t_cmp T.eq n_eq b_eq (w_of (x_var (pv 1) rfl)) (w_of (x_var (pv 2) rfl)) rfl)) (t_or1X (t_cmpX T.eq n_eq b_eq (x_up (x_var (pv 2) rfl)) (x_lendM0 (mn := "ones") rfl T (c_Builder_ones Y) (by decide) (fun _ _ _ _ _ h => h) (pv 0) rfl) rfl)))) (c_one (s_up (s_retL (x_up (x_var (pv 1) rfl)) rfl) (owS_le (by decide)) (by decide))) (c_cut (o1 := owS [0]) c_nil (owS_le (by decide)) (by decide)))
  (c_cons (o1 := owS [0]) (c_ifX (t_cmpX T.eq n_eq b_eq (x_up (x_var (pv 1) rfl)) (x_lendM0 (mn := "ones") rfl T (c_Builder_ones Y) (by decide) (fun _ _ _ _ _ h => h) (pv 0) rfl) rfl) (c_one (s_up (s_retL (x_up (x_var (pv 2) rfl)) rfl) (owS_le (by decide)) (by decide))) (c_cut (o1 := owS [0]) c_nil (owS_le (by decide)) (by decide)))
  (c_cons (o1 := owS [0]) (c_ifX (PW.pt (t_orX (t_cmpX T.eq n_eq b_eq (x_up (x_var (pv 1) rfl)) (x_lendM0 (mn := "zero") rfl T (c_Builder_zero Y) (by decide) (fun _ _ _ _ _ h => h) (pv 0) rfl) rfl) (t_orX (t_cmpX T.eq n_eq b_eq (x_up (x_var (pv 2) rfl)) (x_lendM0 (mn := "zero") rfl T (c_Builder_zero Y) (by decide) (fun _ _ _ _ _ h => h) (pv 0) rfl) rfl) (t_or1X (t_cmpX T.eq n_eq b_eq (x_up (x_var (pv 1) rfl)) (x_lendM (mn := "opposite") rfl T (c_Builder_opposite Y) (by decide) (fun _ _ _ _ _ h => h) (pv 0) rfl (xx_cons (x_up (x_var (pv 2) rfl)) xx_nil)) rfl))))) (c_one (s_up (s_retL (x_lendM0 (mn := "zero") rfl T (c_Builder_zero Y) (by decide) (fun _ _ _ _ _ h => h) (pv 0) rfl) rfl) (owS_le (by decide)) (by decide))) (c_cut (o1 := owS [0]) c_nil (owS_le (by decide)) (by decide)))
  (c_one (s_up (s_retL (x_lendM (mn := "put") rfl T (c_Builder_put Y) (by decide) (fun _ _ _ _ _ h => h) (pv 0) rfl (xx_cons (x_up (x_tup (xa_cons (x_str (s := "and")) (xa_cons (x_b2 (v_min2 T.calm) n_min2 rfl (Y.free 8) hv_min (w_of (x_var (pv 1) rfl)) (w_of (x_var (pv 2) rfl))) (xa_cons (x_b2 (v_max2 T.calm) n_max2 rfl (Y.free 13) hv_max (w_of (x_var (pv 1) rfl)) (w_of (x_var (pv 2) rfl))) xa_nil))))) xx_nil)) rfl) (owS_le (by decide)) (by decide)))))))
theorem S_Builder_either_of : FnScope N_Builder_either_of ["self", "i", "j"] sc_Builder_either_of := ⟨rfl, rfl, rfl, by decide +kernel, rfl, by decide +kernel, by decide +kernel⟩
theorem c_Builder_either_of (Y : Fs P w K mg) : MethL P w K mg base 4 "Builder" "either_of" 3 m_Builder_either_of :=
  meth_defL (d := d_Builder_either_of) (N := N_Builder_either_of) (ps := ["self", "i", "j"]) (p := 3) (m := b_Builder_either_of) (k := 3) (ow := ow_Builder_either_of) (oN := owS [0]) (oB := owS [0]) (Y.def_ 32) (Y.cls 33) (Y.meth 49) S_Builder_either_of rfl rfl rfl rfl (by decide) (fun _ _ _ _ _ _ us hl => match us, hl with | [_, _, _], _ => rfl) (fun cdv A outer s H E T => (c_cons (o1 := owS [0]) (c_ifX (PW.pt (t_orX (x_upT (t_cmp T.eq n_eq b_eq (w_of (x_var (pv 1) rfl)) (w_of (x_var (pv 2) rfl)) rfl)) (t_or1X (t_cmpX T.eq n_eq b_eq (x_up (x_var (pv 2) rfl)) (x_lendM0 (mn := "zero") rfl T (c_Builder_zero Y) (by decide) (fun _ _ _ _ _ h => h) (pv 0) rfl) rfl)))) (c_one (s_up (s_retL (x_up (x_var (pv 1) rfl)) rfl) (owS_le (by decide)) (by decide))) (c_cut (o1 := owS [0]) c_nil (owS_le (by decide)) (by decide)))
  (c_cons (o1 := owS [0]) (c_ifX (t_cmpX T.eq n_eq b_eq (x_up (x_var (pv 1) rfl)) (x_lendM0 (mn := "zero") rfl T (c_Builder_zero Y) (by decide) (fun _ _ _ _ _ h => h) (pv 0) rfl) rfl) (c_one (s_up (s_retL (x_up (x_var (pv 2) rfl)) rfl) (owS_le (by decide)) (by decide))) (c_cut (o1 := owS [0]) c_nil (owS_le (by decide)) (by decide)))
  (c_cons (o1 := owS [0]) (c_ifX (PW.pt (t_orX (t_cmpX T.eq n_eq b_eq (x_up (x_var (pv 1) rfl)) (x_lendM0 (mn := "ones") rfl T (c_Builder_ones Y) (by decide) (fun _ _ _ _ _ h => h) (pv 0) rfl) rfl) (t_orX (t_cmpX T.eq n_eq b_eq (x_up (x_var (pv 2) rfl)) (x_lendM0 (mn := "ones") rfl T (c_Builder_ones Y) (by decide) (fun _ _ _ _ _ h => h) (pv 0) rfl) rfl) (t_or1X (t_cmpX T.eq n_eq b_eq (x_up (x_var (pv 1) rfl)) (x_lendM (mn := "opposite") rfl T (c_Builder_opposite Y) (by decide) (fun _ _ _ _ _ h => h) (pv 0) rfl (xx_cons (x_up (x_var (pv 2) rfl)) xx_nil)) rfl))))) (c_one (s_up (s_retL (x_lendM0 (mn := "ones") rfl T (c_Builder_ones Y) (by decide) (fun _ _ _ _ _ h => h) (pv 0) rfl) rfl) (owS_le (by decide)) (by decide))) (c_cut (o1 := owS [0]) c_nil (owS_le (by decide)) (by decide)))
  (c_one (s_up (s_retL (x_lendM (mn := "put") rfl T (c_Builder_put Y) (by decide) (fun _ _ _ _ _ h => h) (pv 0) rfl (xx_cons (x_up (x_tup (xa_cons (x_str (s := "or")) (xa_cons (x_b2 (v_min2 T.calm) n_min2 rfl (Y.free 8) hv_min (w_of (x_var (pv 1) rfl)) (w_of (x_var (pv 2) rfl))) (xa_cons (x_b2 (v_max2 T.calm) n_max2 rfl (Y.free 13) hv_max (w_of (x_var (pv 1) rfl)) (w_of (x_var (pv 2) rfl))) xa_nil))))) xx_nil)) rfl) (owS_le (by decide)) (by decide)))))))
theorem S_Builder_all_of : FnScope N_Builder_all_of ["self", "values"] sc_Builder_all_of := ⟨rfl, rfl, rfl, by decide +kernel, rfl, by decide +kernel, by decide +kernel⟩
theorem c_Builder_all_of (Y : Fs P w K mg) : MethL P w K mg base 5 "Builder" "all_of" 2 m_Builder_all_of :=
  meth_defL (d := d_Builder_all_of) (N := N_Builder_all_of) (ps := ["self", "values"]) (p := 2) (m := b_Builder_all_of) (k := 4) (ow := ow_Builder_all_of) (oN := owS [0]) (oB := owS [0]) (Y.def_ 33) (Y.cls 33) (Y.meth 50) S_Builder_all_of rfl rfl rfl rfl (by decide) (fun _ _ _ _ _ _ us hl => match us, hl with | [_, _], _ => rfl) (fun cdv A outer s H E T => (c_cons (o1 := owS [0]) (s_up (s_setX (ps_set (i := 2) T.nd rfl (Or.inl rfl) (x_lendM0 (mn := "ones") rfl T (c_Builder_ones Y) (by decide) (fun _ _ _ _ _ h => h) (pv 0) rfl)) rfl) (owS_le (by decide)) (by decide))
  (c_cons (o1 := owS [0]) (s_up (s_for T.po T.calm (i_seq (x_var (pv 1) rfl)) (g_nm (pg_name (i := 3) T.nd rfl (Or.inl rfl)) rfl) (c_one (s_up (s_setX (ps_set (i := 2) T.nd rfl (Or.inl rfl) (x_lendM (mn := "both_of") rfl T (c_Builder_both_of Y) (by decide) (fun _ _ _ _ _ h => h) (pv 0) rfl (xx_cons (x_up (x_var (pv 2) rfl)) (xx_cons (x_up (x_var (pv 3) rfl)) xx_nil)))) rfl) (owS_le (by decide)) (by decide)))) (owS_le (by decide)) (by decide))
  (c_one (s_up (s_retL (x_up (x_var (pv 2) rfl)) rfl) (owS_le (by decide)) (by decide))))))
theorem S_Builder_letter_word : FnScope N_Builder_letter_word ["self", "x"] sc_Builder_letter_word := ⟨rfl, rfl, rfl, by decide +kernel, rfl, by decide +kernel, by decide +kernel⟩
theorem c_Builder_letter_word (Y : Fs P w K mg) : MethL P w K mg base 6 "Builder" "letter_word" 2 m_Builder_letter_word :=
  meth_defL (d := d_Builder_letter_word) (N := N_Builder_letter_word) (ps := ["self", "x"]) (p := 2) (m := b_Builder_letter_word) (k := 5) (ow := ow_Builder_letter_word) (oN := owS [0]) (oB := owS [0]) (Y.def_ 34) (Y.cls 33) (Y.meth 51) S_Builder_letter_word rfl rfl rfl rfl (by decide) (fun _ _ _ _ _ _ us hl => match us, hl with | [_, _], _ => rfl) (fun cdv A outer s H E T => (c_one (s_up (s_retL (x_lendM (mn := "all_of") rfl T (c_Builder_all_of Y) (by decide) (fun _ _ _ _ _ h => h) (pv 0) rfl (xx_cons (x_ofF (f_lcX (os := [0]) (own := [("i", 2)]) T (i_rng1 rfl (Y.free 9) (x_attr (att_ok (Y.more 7)) (x_own (pv 0)))) (blkOk_by (N := N_Builder_letter_word) (sc := sc_Builder_letter_word) (own := [("i", 2)]) (by decide +kernel)) (fun _ _ _ _ _ T1 => (g_nm (pg_name (i := 2) T1.nd rfl (Or.inl rfl)) rfl)) (fun _ _ _ _ _ T1 => ts_nilX) (fun _ _ _ _ _ T1 => (x_ifExpX (x_upT (t_tst (w_of (x_bin y_and n_and (w_of (x_bin y_shr n_shr (w_of (x_var (pv 1) rfl)) (w_of (x_var (pv 2) rfl)))) (w_of x_int))) (by intro _; rfl))) (x_up (x_var (pv 2) rfl)) (x_lendM (mn := "opposite") rfl T1 (c_Builder_opposite Y) (by decide) (fun _ _ _ _ _ h => h) (pv 0) rfl (xx_cons (x_up (x_var (pv 2) rfl)) xx_nil)))) (by decide))) xx_nil)) rfl) (owS_le (by decide)) (by decide))))
theorem S_written_word : FnScope N_written_word ["builder", "least", "words"] sc_written_word := ⟨rfl, rfl, rfl, by decide +kernel, rfl, by decide +kernel, by decide +kernel⟩
theorem cL_written_word (Y : Fs P w K mg) : CallL P w K mg base 7 "written_word" d_written_word ["builder", "least", "words"] 3 m_written_word :=
  def_okL (d := d_written_word) (N := N_written_word) (ps := ["builder", "least", "words"]) (p := 3) (m := b_written_word) (k := 6) (ow := ow_written_word) (oN := owS [0]) (oB := owS [0]) (Y.def_ 35) (Y.glo 52) S_written_word rfl rfl rfl rfl (by decide) (fun _ _ _ _ _ _ us hl => match us, hl with | [_, _, _], _ => rfl) (fun cdv A outer s H E T => (c_cons (o1 := owS [0]) (s_up (s_setX (ps_set (i := 3) T.nd rfl (Or.inl rfl) (x_lendM0 (mn := "zero") rfl T (c_Builder_zero Y) (by decide) (fun _ _ _ _ _ h => h) (pv 0) rfl)) rfl) (owS_le (by decide)) (by decide))
  (c_cons (o1 := owS [0]) (s_up (s_for T.po T.calm (i_enum rfl (Y.free 6) (x_var (pv 2) rfl)) (g_tup T.calm (gs_cons (g_nm (pg_name (i := 4) T.nd rfl (Or.inl rfl)) rfl) (gs_cons (g_nm (pg_name (i := 5) T.nd rfl (Or.inl rfl)) rfl) gs_nil))) (c_one (s_up (s_for T.po T.calm (i_enum rfl (Y.free 6) (x_idx T.ix (w_of (x_attr (att_ok (Y.more 4)) (w_of (x_var (pv 1) rfl)))) (w_of (x_var (pv 4) rfl)))) (g_tup T.calm (gs_cons (g_nm (pg_name (i := 6) T.nd rfl (Or.inl rfl)) rfl) (gs_cons (g_nm (pg_name (i := 7) T.nd rfl (Or.inl rfl)) rfl) gs_nil))) (c_one (c_if (t_cmp T.eq n_eq b_eq (w_of (x_var (pv 7) rfl)) (w_of x_int) rfl) (c_one (s_up (s_setX (ps_set (i := 3) T.nd rfl (Or.inl rfl) (x_lendM (mn := "either_of") rfl T (c_Builder_either_of Y) (by decide) (fun _ _ _ _ _ h => h) (pv 0) rfl (xx_cons (x_up (x_var (pv 3) rfl)) (xx_cons (x_lendM (mn := "both_of") rfl T (c_Builder_both_of Y) (by decide) (fun _ _ _ _ _ h => h) (pv 0) rfl (xx_cons (x_up (x_var (pv 5) rfl)) (xx_cons (x_lendM (mn := "letter_word") rfl T (c_Builder_letter_word Y) (by decide) (fun _ _ _ _ _ h => h) (pv 0) rfl (xx_cons (x_up (x_var (pv 6) rfl)) xx_nil)) xx_nil))) xx_nil)))) rfl) (owS_le (by decide)) (by decide))) (c_cut (o1 := owS [0]) c_nil (owS_le (by decide)) (by decide))))) (owS_le (by decide)) (by decide)))) (owS_le (by decide)) (by decide))
  (c_one (s_up (s_retL (x_up (x_var (pv 3) rfl)) rfl) (owS_le (by decide)) (by decide))))))
theorem S_logic_row : FnScope N_logic_row ["machine"] sc_logic_row := ⟨rfl, rfl, rfl, by decide +kernel, rfl, by decide +kernel, by decide +kernel⟩
theorem c_logic_row (Y : Fs P w K mg) : CallOk P w K mg base 9 "logic_row" d_logic_row ["machine"] 1 m_logic_row :=
  def_ok (d := d_logic_row) (N := N_logic_row) (ps := ["machine"]) (p := 1) (m := b_logic_row) (k := 8) (ow := ow_logic_row) (oN := owS []) (oB := owS []) (Y.def_ 36) (Y.glo 53) S_logic_row rfl rfl (by decide) (fun _ _ _ _ _ _ us hl => match us, hl with | [_], _ => rfl) (fun cdv A outer s H E T => (c_cons (o1 := owS []) (s_up (s_set (ps_set (i := 1) T.nd rfl (Or.inl rfl) (x_own1 T (c_least_machine Y) (by decide) rfl (xa_cons (x_var (pv 0) rfl) xa_nil))) rfl) (owS_le (by decide)) (by decide))
  (c_cons (o1 := owS []) (c_if (t_cmp y_gt n_gt b_gt (w_of (x_b1 v_len n_len rfl (Y.free 2) hv_len (w_of (x_attr (att_ok (Y.more 3)) (w_of (x_var (pv 1) rfl)))))) (w_of x_int) rfl) (c_one (s_up (s_ret x_non) (owS_le (by decide)) (by decide))) (c_cut (o1 := owS []) c_nil (owS_le (by decide)) (by decide)))
  (c_cons (o1 := owS [2]) (c_ownN (ps_set (i := 2) T.nd rfl (Or.inl rfl) (f_new (cls := "Builder") T (c_Builder Y) (by decide) rfl (xa_cons (x_attr (att_ok (Y.more 6)) (w_of (x_var (pv 1) rfl))) xa_nil))) rfl (owS_add (by decide)))
  (c_one (c_stop (o1 := owS [2]) nn_retMX (s_up (s_retMX (mn := "row") rfl T (c_Builder_row Y) (by decide) (pv 2) rfl (xx_cons (x_lend T (cL_written_word Y) (by decide) rfl (pv 2) rfl (xx_cons (x_up (x_var (pv 1) rfl)) (xx_cons (x_ofF (f_lstX (xx_cons (x_lendM0 (mn := "ones") rfl T (c_Builder_ones Y) (by decide) (fun _ _ _ _ _ h => h) (pv 2) rfl) xx_nil))) xx_nil))) xx_nil)) (owS_le (by decide)) (by decide))))))))
theorem S__law_asked : FnScope N__law_asked ["script"] sc__law_asked := ⟨rfl, rfl, rfl, by decide +kernel, rfl, by decide +kernel, by decide +kernel⟩
theorem c_law_asked (Y : Fs P w K mg) : CallOk P w K mg base 10 "_law_asked" d__law_asked ["script"] 1 m_law_asked :=
  def_ok (d := d__law_asked) (N := N__law_asked) (ps := ["script"]) (p := 1) (m := b__law_asked) (k := 9) (ow := ow__law_asked) (Y.def_ 37) (Y.glo 54) S__law_asked rfl rfl (by decide) (fun _ _ _ _ _ _ us hl => match us, hl with | [_], _ => rfl) (fun cdv A outer s H E T => (ss_cons (s_set (ps_set (i := 1) T.nd rfl (Or.inl rfl) (x_pool (f_lst (xa_cons (e_of (f_list rfl rfl (Y.free 0) (w_of (x_var (pv 0) rfl)))) (xa_cons x_int (xa_cons x_int (xa_cons x_int (xa_cons x_int xa_nil)))))))) rfl)
  (ss_cons (s_set (ps_set (i := 2) T.nd rfl (Or.inl rfl) (x_idx T.ix (w_of (x_tup (xa_cons x_int (xa_cons x_int (xa_cons x_int (xa_cons x_int xa_nil)))))) (w_of (x_own1 T (c_law_take Y) (by decide) rfl (xa_cons (x_var (pv 1) rfl) (xa_cons x_int xa_nil)))))) rfl)
  (ss_cons (s_gen (ps_asg (x_own1 T (c_law_machine Y) (by decide) rfl (xa_cons (x_var (pv 1) rfl) (xa_cons (x_bin y_shl n_shl (w_of x_int) (w_of (x_var (pv 2) rfl))) xa_nil))) (g_tup T.calm (gs_cons (g_nm (pg_name (i := 3) T.nd rfl (Or.inl rfl)) rfl) (gs_cons (g_nm (pg_name (i := 4) T.nd rfl (Or.inl rfl)) rfl) gs_nil)))))
  (ss_cons (s_set (ps_set (i := 5) T.nd rfl (Or.inl rfl) (x_new (cls := "Machine") T (c_Machine Y) (by decide) rfl (xa_cons (x_var (pv 2) rfl) (xa_cons (e_of (f_list rfl rfl (Y.free 0) (w_of (x_var (pv 3) rfl)))) (xa_cons (x_t1 v_tuple n_tuple rfl (Y.free 1) hv_tuple (w_of (x_var (pv 4) rfl))) xa_nil))))) rfl)
  (ss_cons (s_set (ps_set (i := 6) T.nd rfl (Or.inl rfl) (x_own1 T (c_logic_row Y) (by decide) rfl (xa_cons (x_var (pv 5) rfl) xa_nil))) rfl)
  (ss_cons (s_if (t_not (t_tst (w_of (x_own1 T (c_law_right Y) (by decide) rfl (xa_cons (x_var (pv 6) rfl) (xa_cons (x_var (pv 2) rfl) (xa_cons (x_var (pv 3) rfl) (xa_cons (x_var (pv 4) rfl) xa_nil)))))) (by intro _; rfl))) (ss_one (s_ret x_bl)) ss_nil)
  (ss_cons (s_gen (ps_asg (x_own1 T (c_law_machine Y) (by decide) rfl (xa_cons (x_var (pv 1) rfl) (xa_cons (x_bin y_shl n_shl (w_of x_int) (w_of (x_var (pv 2) rfl))) xa_nil))) (g_tup T.calm (gs_cons (g_nm (pg_name (i := 7) T.nd rfl (Or.inl rfl)) rfl) (gs_cons (g_nm (pg_name (i := 8) T.nd rfl (Or.inl rfl)) rfl) gs_nil)))))
  (ss_cons (s_if (t_not (t_tst (w_of (x_own1 T (c_law_right Y) (by decide) rfl (xa_cons (x_kw (ks := ["machine"]) (π := [0]) T (c_logic_row Y) (by decide) rfl (fun _ _ _ _ _ h => h) (fun _ _ _ _ _ _ ws hl => match ws, hl with | [_], _ => rfl) (xk_cons (x_new (cls := "Machine") T (c_Machine Y) (by decide) rfl (xa_cons (x_var (pv 2) rfl) (xa_cons (x_t1 v_tuple n_tuple rfl (Y.free 1) hv_tuple (w_of (x_var (pv 7) rfl))) (xa_cons (e_of (f_list rfl rfl (Y.free 0) (w_of (x_var (pv 8) rfl)))) xa_nil)))) xk_nil)) (xa_cons (x_var (pv 2) rfl) (xa_cons (x_var (pv 7) rfl) (xa_cons (x_var (pv 8) rfl) xa_nil)))))) (by intro _; rfl))) (ss_one (s_ret x_bl)) ss_nil)
  (ss_cons (s_set (ps_set (i := 9) T.nd rfl (Or.inl rfl) (x_own1 T (c_logic_row Y) (by decide) rfl (xa_cons (x_new (cls := "Machine") T (c_Machine Y) (by decide) rfl (xa_cons (x_var (pv 2) rfl) (xa_cons (x_t1 v_tuple n_tuple rfl (Y.free 1) hv_tuple (w_of (x_var (pv 3) rfl))) (xa_cons (e_of (f_list rfl rfl (Y.free 0) (w_of (x_var (pv 4) rfl)))) xa_nil)))) xa_nil))) rfl)
  (ss_cons (s_if (PW.pt (t_or (t_isN (w_of (x_var (pv 6) rfl))) (t_or1 (t_isN (w_of (x_var (pv 9) rfl)))))) (ss_one (s_ret (x_and (x_isN (w_of (x_var (pv 6) rfl))) (x_one (x_isN (w_of (x_var (pv 9) rfl))))))) ss_nil)
  (ss_one (s_ret (x_and (x_own1 T (c_law_right Y) (by decide) rfl (xa_cons (x_var (pv 9) rfl) (xa_cons (x_var (pv 2) rfl) (xa_cons (x_var (pv 3) rfl) (xa_cons (x_var (pv 4) rfl) xa_nil))))) (x_and (x_cmp T.eq n_eq (w_of (x_attr (att_ok (Y.more 0)) (w_of (x_var (pv 9) rfl)))) (w_of (x_attr (att_ok (Y.more 0)) (w_of (x_var (pv 6) rfl)))) rfl) (x_one (x_cmp T.eq n_eq (w_of (x_attr (att_ok (Y.more 1)) (w_of (x_var (pv 9) rfl)))) (w_of (x_attr (att_ok (Y.more 1)) (w_of (x_var (pv 6) rfl)))) rfl)))))))))))))))))
theorem S_law : FnScope N_law ["script"] sc_law := ⟨rfl, rfl, rfl, by decide +kernel, rfl, by decide +kernel, by decide +kernel⟩
theorem law_is (Y : Fs P w K mg) : ∃ fd : FuncData, (∀ (s : Shared) (u : Value), BindsTo s fd ⟨[u], []⟩ [("script", u)]) ∧ ∀ base : Heap, FnOk P w K mg base (L2N.CX P w) 11 (He.ga K "law") fd ["script"] (spM K 1 m_law) :=
  law_ok (qual := "law") (params := defArgs st_law) (body := defBody st_law) (scope := sc_law) (f := He.ga K "law") (N := N_law) (m := b_law) (ow := ow_law) (Y.def_ 38) S_law rfl rfl (fun _ _ _ _ _ _ us hl => match us, hl with | [_], _ => rfl) (fun base cdv A outer s H E T => (ss_one (s_thru T fun T1 => (ss_one (s_ret (x_own1 T1 (c_law_asked Y) (by decide) rfl (xa_cons (x_var (pv 0) rfl) xa_nil)))))))
end
theorem ob_eq (s : PySem.W.SharedT) : ob s = hkY.obs s.abs := obsYG_eq (HandSHeadRun.getT_eq s)
end Py
/-! More about mirrors: comprehensions over made lists, enumerate, slices, draws. -/
namespace Py.U
open PySem
def Drawn : List Int → List Int → Prop
  | [], [] => True
  | d :: ds, s :: ss => (0 ≤ d ∧ d < s) ∧ Drawn ds ss
  | _, _ => False
theorem Drawn.snoc : ∀ {ds ss : List Int} {d s : Int}, Drawn ds ss → 0 ≤ d → d < s → Drawn (ds ++ [d]) (ss ++ [s])
  | [], [], _, _, _, h1, h2 => ⟨⟨h1, h2⟩, trivial⟩
  | d :: ds, s :: ss, _, _, h, h1, h2 => ⟨h.1, Drawn.snoc h.2 h1 h2⟩
  | [], _ :: _, _, _, h, _, _ => h.elim
  | _ :: _, [], _, _, h, _, _ => h.elim
theorem Drawn.length : ∀ {ds ss : List Int}, Drawn ds ss → ds.length = ss.length
  | [], [], _ => rfl
  | d :: ds, s :: ss, h => congrArg (· + 1) (Drawn.length h.2)
  | [], _ :: _, h => h.elim
  | _ :: _, [], h => h.elim
theorem le_sz {n : Nat} (h : n ≤ 1000) : n ≤ SZ := Nat.le_trans h (by decide)
theorem compL_mapI {α : Type} {f : D → Res (Option D)} {k h : α → D} : ∀ {ys : List α}, (∀ y ∈ ys, f (k y) = .ok (some (h y))) → compL f (ys.map k) = .ok (ys.map h)
  | [], _ => rfl
  | y :: ys, q => by
    rw [List.map_cons, List.map_cons]
    unfold compL
    rw [q y List.mem_cons_self, compL_mapI fun z hz => q z (List.mem_cons_of_mem _ hz)] <;> rfl
theorem lc_mapI {α : Type} {it : IM} {vs : List Nat} {g : GM} {elt : EM} {e : Env} {ys : List α} {k h : α → D} (hi : it e = .ok (ys.map k)) (hz : ys.length ≤ SZ) (hx : ∀ y ∈ ys, ∃ e1, g (k y) (wipe e vs) = some e1 ∧ elt e1 = .ok (h y)) : lcE it vs g yes elt e = .ok (.lst (ys.map h)) := by
  unfold lcE
  rw [hi]
  have q : compL (compF vs g yes elt e) (ys.map k) = .ok (ys.map h) := compL_mapI fun x hm => by
    obtain ⟨e1, h1, h2⟩ := hx x hm
    unfold compF
    rw [h1]
    simp [yes, h2]
  simp only [bind_ok, q, noexc_ok, List.length_map]
  exact chk_ok hz
theorem seq_next {a b : SM} {e e' : Env} (h : a e = .ok (.next e')) : seq a b e = b e' := by
  rw [seq_eq, h]
  rfl
theorem slc_eq (a : EM) (lo hi : Option EM) (e : Env) : slc a lo hi e = (a e >>= fun x => slc.bnd lo e >>= fun i => slc.bnd hi e >>= fun j => oslc x i j) := rfl
theorem bnd_none (e : Env) : slc.bnd none e = .ok none := rfl
theorem bnd_some (m : EM) (e : Env) : slc.bnd (some m) e = (m e >>= fun d => match d with | .int i => .ok (some i) | _ => .stuck) := rfl
end Py.U
/-! Numbers of first meetings; classes of states; a search by levels. No program in sight. -/
namespace Py.U
section
variable {α β : Type} [DecidableEq α] [DecidableEq β]
def addU (s : List α) (k : α) : List α := if k ∈ s then s else s ++ [k]
def uniq (ks : List α) : List α := ks.foldl addU []
theorem mem_addU {s : List α} {k x : α} : x ∈ addU s k ↔ x ∈ s ∨ x = k := by
  unfold addU
  split
  · rename_i h
    constructor
    · exact .inl
    · rintro (q | rfl)
      · exact q
      · exact h
  · simp
theorem nodup_addU {s : List α} {k : α} (h : s.Nodup) : (addU s k).Nodup := by
  unfold addU
  split
  · exact h
  · rename_i hk
    rw [List.nodup_append]
    refine ⟨h, by simp, fun a ha b hb => ?_⟩
    rw [List.mem_singleton.mp hb]
    rintro rfl
    exact hk ha
theorem foldU : ∀ (ks s : List α), s.Nodup → (ks.foldl addU s).Nodup ∧ ∀ x, x ∈ ks.foldl addU s ↔ x ∈ s ∨ x ∈ ks
  | [], s, h => ⟨h, fun x => by simp⟩
  | k :: ks, s, h => by
    obtain ⟨h1, h2⟩ := foldU ks (addU s k) (nodup_addU h)
    refine ⟨h1, fun x => ?_⟩
    rw [List.foldl_cons, h2, mem_addU, List.mem_cons]
    constructor
    · rintro ((a | a) | a)
      · exact .inl a
      · exact .inr (.inl a)
      · exact .inr (.inr a)
    · rintro (a | a | a)
      · exact .inl (.inl a)
      · exact .inl (.inr a)
      · exact .inr a
theorem uniq_nodup (ks : List α) : (uniq ks).Nodup := (foldU ks [] List.nodup_nil).1
theorem mem_uniq {ks : List α} {x : α} : x ∈ uniq ks ↔ x ∈ ks := by
  have := (foldU ks [] List.nodup_nil).2 x
  simpa [uniq] using this
theorem uniq_snoc (ks : List α) (k : α) : uniq (ks ++ [k]) = addU (uniq ks) k := by
  unfold uniq
  rw [List.foldl_append]
  rfl
theorem idx_app {s t : List α} {k : α} (h : k ∈ s) : (s ++ t).idxOf k = s.idxOf k := by
  rw [List.idxOf_append, if_pos h]
theorem idx_addU {s : List α} {k x : α} (h : x ∈ s) : (addU s k).idxOf x = s.idxOf x := by
  unfold addU
  split
  · rfl
  · exact idx_app h
theorem idx_new {s : List α} {k : α} : (addU s k).idxOf k = s.idxOf k := by
  unfold addU
  split
  · rfl
  · rename_i h
    rw [List.idxOf_append, if_neg h, List.idxOf_eq_length h]
    simp
/-- the number of each key's first meeting -/
def numb (ks : List α) : List Nat := ks.map fun k => (uniq ks).idxOf k
theorem numb_len (ks : List α) : (numb ks).length = ks.length := by simp [numb]
theorem numb_snoc (ks : List α) (k : α) : numb (ks ++ [k]) = numb ks ++ [(uniq ks).idxOf k] := by
  unfold numb
  rw [uniq_snoc, List.map_append, List.map_singleton, idx_new]
  congr 1
  exact List.map_congr_left fun x hx => idx_addU (mem_uniq.mpr hx)
theorem numb_lt {ks : List α} {n : Nat} (h : n ∈ numb ks) : n < (uniq ks).length := by
  obtain ⟨k, hk, rfl⟩ := List.mem_map.mp h
  exact List.idxOf_lt_length_of_mem (mem_uniq.mpr hk)
theorem uniq_len (ks : List α) : (uniq ks).length ≤ ks.length := by
  have key : ∀ (ks s : List α), (ks.foldl addU s).length ≤ s.length + ks.length := by
    intro ks
    induction ks with
    | nil => simp
    | cons k ks ih =>
      intro s
      have h1 : (addU s k).length ≤ s.length + 1 := by
        unfold addU
        split <;> simp
      have := ih (addU s k)
      simp only [List.foldl_cons, List.length_cons]
      omega
  have := key ks []
  simpa [uniq] using this
/-- the greatest number -/
def mxN (c : List Nat) : Nat := c.foldl max 0
theorem foldmx : ∀ (c : List Nat) (a : Nat), a ≤ c.foldl max a ∧ (∀ x ∈ c, x ≤ c.foldl max a) ∧ (c.foldl max a = a ∨ c.foldl max a ∈ c)
  | [], a => ⟨Nat.le_refl _, by simp, .inl rfl⟩
  | x :: c, a => by
    obtain ⟨h1, h2, h3⟩ := foldmx c (max a x)
    simp only [List.foldl_cons]
    refine ⟨by omega, fun y hy => ?_, ?_⟩
    · rcases List.mem_cons.mp hy with rfl | hy
      · omega
      · exact h2 y hy
    · rcases h3 with h3 | h3
      · rw [h3]
        by_cases q : a ≤ x
        · right
          rw [Nat.max_eq_right q]
          exact List.mem_cons_self
        · left
          omega
      · exact .inr (List.mem_cons_of_mem _ h3)
theorem mx_ge {c : List Nat} {x : Nat} (h : x ∈ c) : x ≤ mxN c := (foldmx c 0).2.1 x h
theorem numb_mx {ks : List α} (h : ks ≠ []) : mxN (numb ks) + 1 = (uniq ks).length := by
  have hu : uniq ks ≠ [] := fun e => by
    cases ks with
    | nil => exact h rfl
    | cons k r =>
      have : k ∈ uniq (k :: r) := mem_uniq.mpr List.mem_cons_self
      rw [e] at this
      cases this
  have hpos : 0 < (uniq ks).length := List.length_pos_iff.mpr hu
  have h1 : mxN (numb ks) < (uniq ks).length := by
    rcases (foldmx (numb ks) 0).2.2 with e | e
    · show List.foldl max 0 (numb ks) < _
      omega
    · exact numb_lt e
  have h2 : (uniq ks).length - 1 ∈ numb ks := by
    have hl : (uniq ks).length - 1 < (uniq ks).length := by omega
    refine List.mem_map.mpr ⟨(uniq ks)[(uniq ks).length - 1], mem_uniq.mp (List.getElem_mem hl), ?_⟩
    exact (uniq_nodup ks).idxOf_getElem _ hl
  have h3 := mx_ge h2
  omega
/-- finer keys have more numbers -/
theorem uniq_le_of {ks : List α} {js : List β} (f : β → α) (h : js.map f = ks) : (uniq ks).length ≤ (uniq js).length := by
  have hs : uniq ks ⊆ (uniq js).map f := fun x hx => by
    have h1 : x ∈ js.map f := by rw [h]; exact mem_uniq.mp hx
    obtain ⟨j, hj, rfl⟩ := List.mem_map.mp h1
    exact List.mem_map.mpr ⟨j, mem_uniq.mpr hj, rfl⟩
  have := (uniq_nodup ks).length_le_of_subset hs
  simpa using this
end
/-! ### classes -/
/-- what a state's class hangs on -/
def keyS (nx : List (List Nat)) (c : List Nat) (s : Nat) : Nat × List Nat := (c.getD s 0, (nx.getD s []).map fun t => c.getD t 0)
def stepC (nx : List (List Nat)) (c : List Nat) : List Nat := numb ((List.range nx.length).map (keyS nx c))
theorem stepC_len (nx : List (List Nat)) (c : List Nat) : (stepC nx c).length = nx.length := by
  unfold stepC
  rw [numb_len]
  simp
theorem rank_numb {α : Type} [DecidableEq α] (ks : List α) : (uniq (numb ks)).length = (uniq ks).length ∧ (ks ≠ [] → mxN (numb ks) + 1 = (uniq (numb ks)).length) := by
  have e : (uniq (numb ks)).length = (uniq ks).length := by
    apply Nat.le_antisymm
    · exact uniq_le_of (js := ks) (fun k => (uniq ks).idxOf k) rfl
    · have h : ((numb ks).map fun n => (uniq ks)[n]?) = ks.map some := by
        unfold numb
        rw [List.map_map]
        refine List.map_congr_left fun k hk => ?_
        simp only [Function.comp]
        have hl := List.idxOf_lt_length_of_mem (mem_uniq.mpr hk)
        rw [List.getElem?_eq_getElem hl, List.getElem_idxOf hl]
      have h1 := uniq_le_of (js := numb ks) (fun n => (uniq ks)[n]?) h
      have h2 : (uniq ks).length ≤ (uniq (ks.map some)).length := by
        have := uniq_le_of (ks := ks.map fun k => some k) (js := ks) some rfl
        have hs : (uniq ks).map some ⊆ uniq (ks.map some) := fun x hx => by
          obtain ⟨y, hy, rfl⟩ := List.mem_map.mp hx
          exact mem_uniq.mpr (List.mem_map.mpr ⟨y, mem_uniq.mp hy, rfl⟩)
        have hn : ((uniq ks).map some).Nodup := by
          exact (uniq_nodup ks).map some fun a b hab e => hab (Option.some.inj e)
        have := hn.length_le_of_subset hs
        simpa using this
      omega
  exact ⟨e, fun h => by rw [e]; exact numb_mx h⟩
/-- numbers of first meetings of something -/
def Met (n : Nat) (c : List Nat) : Prop := c.length = n ∧ (0 < n → mxN c + 1 = (uniq c).length)
theorem met_numb {α : Type} [DecidableEq α] (ks : List α) : Met ks.length (numb ks) := ⟨numb_len ks, fun h => (rank_numb ks).2 (List.length_pos_iff.mp h)⟩
theorem met_step {nx : List (List Nat)} {c : List Nat} : Met nx.length (stepC nx c) := by
  have := met_numb ((List.range nx.length).map (keyS nx c))
  rw [List.length_map, List.length_range] at this
  exact this
theorem range_getD {c : List Nat} {n : Nat} (h : c.length = n) : (List.range n).map (fun s => c.getD s 0) = c := by
  apply List.ext_getElem
  · simp [h]
  · intro i h1 h2
    simp [h2]
theorem step_mx {nx : List (List Nat)} {c : List Nat} (h : Met nx.length c) (hn : 0 < nx.length) : mxN c ≤ mxN (stepC nx c) ∧ mxN (stepC nx c) < nx.length := by
  have h1 := h.2 hn
  have h2 : mxN (stepC nx c) + 1 = _ := numb_mx (ks := (List.range nx.length).map (keyS nx c)) (by
    intro e
    have := congrArg List.length e
    simp at this
    rw [this] at hn
    simp at hn)
  have h3 : (uniq c).length ≤ (uniq ((List.range nx.length).map (keyS nx c))).length := uniq_le_of Prod.fst (by
    rw [List.map_map]
    exact range_getD h.1)
  have h4 := uniq_len ((List.range nx.length).map (keyS nx c))
  simp at h4
  omega
/-- the classes, found in at most so many turns -/
def clsL (nx : List (List Nat)) (c : List Nat) : Nat → List Nat
  | 0 => c
  | k + 1 => if mxN (stepC nx c) = mxN c then c else clsL nx (stepC nx c) k
theorem cls_met {nx : List (List Nat)} : ∀ (k : Nat) (c : List Nat), Met nx.length c → Met nx.length (clsL nx c k)
  | 0, c, h => h
  | k + 1, c, h => by
    rw [clsL]
    split
    · exact h
    · exact cls_met k _ met_step
/-- the classes are kept by a further turn -/
theorem cls_end {nx : List (List Nat)} (hn : 0 < nx.length) : ∀ (k : Nat) (c : List Nat), Met nx.length c → nx.length ≤ mxN c + k + 1 → mxN (stepC nx (clsL nx c k)) = mxN (clsL nx c k)
  | 0, c, h, hk => by
    obtain ⟨h1, h2⟩ := step_mx h hn
    rw [clsL]
    omega
  | k + 1, c, h, hk => by
    rw [clsL]
    obtain ⟨h1, h2⟩ := step_mx h hn
    split
    · assumption
    · exact cls_end hn k (stepC nx c) met_step (by omega)
/-! ### a search by levels -/
section
variable (C : Nat → Nat) (nx : List (List Nat))
def stepT (f : List Nat) (t : Nat) : List Nat := if C t ∈ f.map C then f else f ++ [t]
def stepS (f : List Nat) (s : Nat) : List Nat := (nx.getD s []).foldl (stepT C) f
def bfsL : Nat → List Nat → Nat → List Nat
  | 0, f, _ => f
  | k + 1, f, a => if a < f.length then bfsL k (stepS C nx f (f.getD a 0)) (a + 1) else f
variable {C nx}
theorem stepT_pre (f : List Nat) (t : Nat) : ∃ r, stepT C f t = f ++ r := by
  unfold stepT
  split
  · exact ⟨[], by simp⟩
  · exact ⟨[t], rfl⟩
theorem foldT_pre : ∀ (ts f : List Nat), ∃ r, ts.foldl (stepT C) f = f ++ r
  | [], f => ⟨[], by simp⟩
  | t :: ts, f => by
    obtain ⟨r, hr⟩ := stepT_pre (C := C) f t
    obtain ⟨r2, hr2⟩ := foldT_pre ts (f ++ r)
    refine ⟨r ++ r2, ?_⟩
    rw [List.foldl_cons, hr, hr2, List.append_assoc]
theorem stepS_pre (f : List Nat) (s : Nat) : ∃ r, stepS C nx f s = f ++ r := foldT_pre _ f
theorem bfs_pre : ∀ (k : Nat) (f : List Nat) (a : Nat), ∃ r, bfsL C nx k f a = f ++ r
  | 0, f, a => ⟨[], by simp [bfsL]⟩
  | k + 1, f, a => by
    rw [bfsL]
    split
    · obtain ⟨r, hr⟩ := stepS_pre (C := C) (nx := nx) f (f.getD a 0)
      obtain ⟨r2, hr2⟩ := bfs_pre k (stepS C nx f (f.getD a 0)) (a + 1)
      exact ⟨r ++ r2, by rw [hr2, hr, List.append_assoc]⟩
    · exact ⟨[], by simp⟩
/-- found states: of unlike classes, all below n -/
structure Fnd (C : Nat → Nat) (n : Nat) (f : List Nat) : Prop where
  nd : (f.map C).Nodup
  lt : ∀ s ∈ f, s < n
theorem Fnd.snoc {n : Nat} {f : List Nat} (h : Fnd C n f) {t : Nat} (ht : t < n) : Fnd C n (stepT C f t) := by
  unfold stepT
  split
  · exact h
  · rename_i hn
    refine ⟨?_, fun s hs => ?_⟩
    · rw [List.map_append, List.nodup_append]
      refine ⟨h.nd, by simp, fun a ha b hb => ?_⟩
      rw [List.map_singleton] at hb
      rw [List.mem_singleton.mp hb]
      rintro rfl
      exact hn ha
    · rcases List.mem_append.mp hs with q | q
      · exact h.lt s q
      · rw [List.mem_singleton.mp q]
        exact ht
theorem Fnd.fold {n : Nat} : ∀ {ts f : List Nat}, Fnd C n f → (∀ t ∈ ts, t < n) → Fnd C n (ts.foldl (stepT C) f) ∧ ∀ t ∈ ts, C t ∈ (ts.foldl (stepT C) f).map C
  | [], f, h, _ => ⟨h, by simp⟩
  | t :: ts, f, h, ht => by
    obtain ⟨h1, h2⟩ := Fnd.fold (ts := ts) (h.snoc (ht t List.mem_cons_self)) fun x hx => ht x (List.mem_cons_of_mem _ hx)
    refine ⟨h1, fun x hx => ?_⟩
    rcases List.mem_cons.mp hx with rfl | hx
    · obtain ⟨r, hr⟩ := foldT_pre (C := C) ts (stepT C f x)
      rw [List.foldl_cons, hr, List.map_append]
      refine List.mem_append_left _ ?_
      unfold stepT
      split
      · assumption
      · simp
    · exact h2 x hx
theorem Fnd.step {n : Nat} {f : List Nat} (h : Fnd C n f) {s : Nat} (hs : ∀ t ∈ nx.getD s [], t < n) : Fnd C n (stepS C nx f s) ∧ ∀ t ∈ nx.getD s [], C t ∈ (stepS C nx f s).map C := Fnd.fold h hs
theorem Fnd.len {n m : Nat} {f : List Nat} (h : Fnd C n f) (hC : ∀ s, s < n → C s < m) : f.length ≤ m := by
  have hs : f.map C ⊆ List.range m := fun x hx => by
    obtain ⟨s, hs, rfl⟩ := List.mem_map.mp hx
    exact List.mem_range.mpr (hC s (h.lt s hs))
  have := h.nd.length_le_of_subset hs
  simpa using this
/-- all goals of the states before a have their classes found -/
def Cld (C : Nat → Nat) (nx : List (List Nat)) (f : List Nat) (a : Nat) : Prop := ∀ i, i < a → ∀ t ∈ nx.getD (f.getD i 0) [], C t ∈ f.map C
theorem getD_pre {f r : List Nat} {i : Nat} (h : i < f.length) : (f ++ r).getD i 0 = f.getD i 0 := by
  rw [List.getD_eq_getElem?_getD, List.getD_eq_getElem?_getD, List.getElem?_append_left h]
theorem bfs_ok {n : Nat} (hN : ∀ s, s < n → ∀ t ∈ nx.getD s [], t < n) : ∀ (k : Nat) (f : List Nat) (a : Nat), Fnd C n f → Cld C nx f a → a ≤ f.length → Fnd C n (bfsL C nx k f a) ∧ ((bfsL C nx k f a).length ≤ a + k → Cld C nx (bfsL C nx k f a) (bfsL C nx k f a).length)
  | 0, f, a, h, hc, ha => ⟨h, fun hl => by
    have e : f.length = a := by simp only [bfsL] at hl; omega
    simp only [bfsL]
    rw [e]
    exact hc⟩
  | k + 1, f, a, h, hc, ha => by
    rw [bfsL]
    split
    · rename_i hlt
      have hs : f.getD a 0 < n := h.lt _ (by
        rw [List.getD_eq_getElem?_getD, List.getElem?_eq_getElem hlt]
        exact List.getElem_mem hlt)
      obtain ⟨h1, h2⟩ := h.step (nx := nx) (hN _ hs)
      obtain ⟨r, hr⟩ := stepS_pre (C := C) (nx := nx) f (f.getD a 0)
      have hc' : Cld C nx (stepS C nx f (f.getD a 0)) (a + 1) := fun i hi t ht => by
        by_cases hia : i = a
        · subst hia
          have e : (stepS C nx f (f.getD i 0)).getD i 0 = f.getD i 0 := by rw [hr, getD_pre hlt]
          rw [e] at ht
          exact h2 t ht
        · have hi' : i < a := by omega
          have e : (stepS C nx f (f.getD a 0)).getD i 0 = f.getD i 0 := by rw [hr, getD_pre (by omega)]
          rw [e] at ht
          have := hc i hi' t ht
          rw [hr, List.map_append]
          exact List.mem_append_left _ this
      obtain ⟨g1, g2⟩ := bfs_ok hN k _ (a + 1) h1 hc' (by rw [hr, List.length_append]; omega)
      exact ⟨g1, fun hl => g2 (by omega)⟩
    · rename_i hlt
      have e : f.length = a := by omega
      exact ⟨h, fun _ => by rw [e]; exact hc⟩
end
end Py.U
/-! Dicts from keys to numbers of first meetings, as data. -/
namespace Py.U
def nD (n : Nat) : D := .int (n : Int)
/-! ### equations -/
theorem onotin_dic {t : Bool} {x : D} {kvs : List (D × D)} (h : keyOk t x = true) : onotin x (.dic t kvs) = .ok (.bl (!(find x kvs).isSome)) := by
  show (if keyOk t x = true then Res.ok (D.bl (!(find x kvs).isSome)) else Res.stuck) = _
  rw [if_pos h]
theorem oin_dic {t : Bool} {x : D} {kvs : List (D × D)} (h : keyOk t x = true) : oin x (.dic t kvs) = .ok (.bl (find x kvs).isSome) := by
  show (if keyOk t x = true then Res.ok (D.bl (find x kvs).isSome) else Res.stuck) = _
  rw [if_pos h]
theorem oidx_dic {t : Bool} {x d : D} {kvs : List (D × D)} (h : keyOk t x = true) (hf : find x kvs = some d) : oidx (.dic t kvs) x = .ok d := by
  have e : oidx (.dic t kvs) x = if keyOk t x then opt (find x kvs) else .stuck := by
    cases x <;> rfl
  rw [e, if_pos h, hf]
  rfl
theorem setL_dic {i : Nat} {j m : EM} {e : Env} {t : Bool} {kvs : List (D × D)} {k d : D} (h1 : var i e = .ok (.dic t kvs)) (h2 : m e = .ok d) (h3 : j e = .ok k) (h4 : keyOk t k = true) (h5 : kvs.length < SZ) : setL i j m e = .ok (.next (e.set i (some (.dic t (putD k d kvs))))) := by
  unfold setL
  rw [h1, bind_ok]
  dsimp only
  rw [h2, bind_ok, h3, bind_ok, h4, decide_eq_true h5]
  rfl
theorem blen_dic (t : Bool) (kvs : List (D × D)) : blen (.dic t kvs) = .ok (nD kvs.length) := rfl
@[simp] theorem dic0_eq (t : Bool) (e : Env) : dic0 t e = .ok (.dic t []) := rfl
theorem dic1_eq {t : Bool} {a b : EM} {e : Env} {k v : D} (h1 : a e = .ok k) (h2 : b e = .ok v) (h3 : keyOk t k = true) : dic1 t a b e = .ok (.dic t [(k, v)]) := by
  unfold dic1
  rw [h1, bind_ok, h2, bind_ok, if_pos h3]
/-! ### keys -/
structure KeyE {α : Type} [DecidableEq α] (t : Bool) (kd : α → D) : Prop where
  eq : ∀ a b, eqv (kd a) (kd b) = decide (a = b)
  ok : ∀ a, keyOk t (kd a) = true
section
variable {α : Type} [DecidableEq α] {t : Bool} {kd : α → D}
def tabF (kd : α → D) (k0 : Nat) : List α → List (D × D)
  | [] => []
  | a :: r => (kd a, nD k0) :: tabF kd (k0 + 1) r
theorem tabF_len (kd : α → D) : ∀ (s : List α) (k0 : Nat), (tabF kd k0 s).length = s.length
  | [], _ => rfl
  | a :: r, k0 => by simp [tabF, tabF_len kd r]
theorem find_tabF (h : KeyE t kd) (k : α) : ∀ (s : List α) (k0 : Nat), find (kd k) (tabF kd k0 s) = if k ∈ s then some (nD (k0 + s.idxOf k)) else none
  | [], k0 => by simp [tabF, find]
  | a :: r, k0 => by
    simp only [tabF, find, h.eq]
    by_cases e : a = k
    · subst e
      simp
    · have e2 : ¬ k = a := fun z => e z.symm
      rw [decide_eq_false e, if_neg (by decide), find_tabF h k r (k0 + 1)]
      have e3 : (a == k) = false := by simpa using e
      simp only [List.mem_cons, e2, false_or, List.idxOf_cons, e3, cond_false]
      by_cases q : k ∈ r
      · rw [if_pos q, if_pos q]
        congr 2
        omega
      · rw [if_neg q, if_neg q]
theorem put_tabF (h : KeyE t kd) (k : α) : ∀ (s : List α) (k0 : Nat), k ∉ s → putD (kd k) (nD (k0 + s.length)) (tabF kd k0 s) = tabF kd k0 (s ++ [k])
  | [], k0, _ => by simp [tabF, putD]
  | a :: r, k0, hk => by
    simp only [List.mem_cons, not_or] at hk
    simp only [List.cons_append, tabF, putD, h.eq]
    rw [decide_eq_false fun z => hk.1 z.symm, if_neg (by decide)]
    have := put_tabF h k r (k0 + 1) hk.2
    rw [show k0 + 1 + r.length = k0 + (a :: r).length by simp; omega] at this
    rw [this]
end
/-! ### numbers, lines -/
theorem nD_eq (a b : Nat) : eqv (nD a) (nD b) = decide (a = b) := by
  show eqv (.int (a : Int)) (.int (b : Int)) = _
  simp only [eqv]
  by_cases q : a = b
  · subst q
    simp
  · rw [decide_eq_false q]
    simp
    omega
theorem lineE_eq : ∀ (a b : List Nat), eqv.eqvL (a.map nD) (b.map nD) = decide (a = b)
  | [], [] => by simp [eqv.eqvL]
  | [], b :: bs => by simp [eqv.eqvL]
  | a :: as, [] => by simp [eqv.eqvL]
  | a :: as, b :: bs => by
    simp only [List.map_cons, eqv.eqvL, nD_eq, lineE_eq as bs]
    by_cases q : a = b <;> by_cases r : as = bs <;> simp [q, r]
def rD (r : List Nat) : D := .tup (r.map nD)
theorem rD_eq (a b : List Nat) : eqv (rD a) (rD b) = decide (a = b) := by
  unfold rD
  simp only [eqv]
  exact lineE_eq a b
theorem hk_nD (n m : Nat) : hk n (nD m) = true := by
  unfold nD
  cases n <;> rfl
theorem hk_rD (n : Nat) (r : List Nat) : hk (n + 1) (rD r) = true := by
  unfold rD
  simp only [hk, List.all_map, List.all_eq_true]
  exact fun x _ => hk_nD n x
theorem key_rD : KeyE true rD := ⟨rD_eq, fun a => hk_rD 7 a⟩
theorem key_nD : KeyE false nD := ⟨nD_eq, fun a => rfl⟩
def kpD (p : Nat × List Nat) : D := .tup [nD p.1, rD p.2]
theorem kpD_eq (a b : Nat × List Nat) : eqv (kpD a) (kpD b) = decide (a = b) := by
  unfold kpD
  simp only [eqv, eqv.eqvL, nD_eq, rD_eq]
  obtain ⟨a1, a2⟩ := a
  obtain ⟨b1, b2⟩ := b
  by_cases q : a1 = b1 <;> by_cases r : a2 = b2 <;> simp [q, r]
theorem key_kp : KeyE true kpD := ⟨kpD_eq, fun a => by
  show hk 8 (.tup [nD a.1, rD a.2]) = true
  simp only [hk, List.all_cons, List.all_nil, hk_nD, hk_rD 6, Bool.and_self]⟩
/-! ### each key by the number of its first meeting -/
def nmB : SM := (seq (Py.ite (tst (bin onotin (var 3) (var 1))) (setL 1 (var 3) (un blen (var 1))) skip)
  (app 2 (bin oidx (var 1) (var 3))))
def numB : SM := (seq (asg (gnm 1) (dic0 true))
  (seq (asg (gnm 2) (lstE argN))
  (seq (for_ (iseq (var 0)) (gnm 3) nmB)
  (ret (var 2)))))
section
variable {α : Type} [DecidableEq α] {kd : α → D}
theorem nm_step (h : KeyE true kd) {s : List α} {out : List Nat} {k : α} (hs : s.length < SZ) (ho : out.length < SZ) (K : D) (o : Option D) :
    forB (gnm 3) nmB (kd k) [some K, some (.dic true (tabF kd 0 s)), some (.lst (out.map nD)), o] = .ok (.next [some K, some (.dic true (tabF kd 0 (addU s k))), some (.lst ((out ++ [s.idxOf k]).map nD)), some (kd k)]) := by
  have hk := h.ok k
  have f1 := find_tabF h k s 0
  have hl : (out.map nD).length < SZ := by rw [List.length_map]; exact ho
  rw [forB_eq, gnm_eq, lift_some, bind_ok]
  unfold nmB
  show seq _ _ [some K, some (.dic true (tabF kd 0 s)), some (.lst (out.map nD)), some (kd k)] = _
  by_cases q : k ∈ s
  · rw [if_pos q] at f1
    have n1 : onotin (kd k) (.dic true (tabF kd 0 s)) = .ok (.bl false) := by rw [onotin_dic hk, f1]; rfl
    have g1 := oidx_dic (t := true) hk f1
    have e : addU s k = s := if_pos q
    rw [e]
    rw [Nat.zero_add] at g1
    rw [List.map_append, List.map_singleton]
    generalize tabF kd 0 s = T at *
    generalize kd k = X at *
    generalize out.map nD = L at *
    generalize nD (s.idxOf k) = N at *
    simp [var, n1, g1, hl]
  · rw [if_neg q] at f1
    have n1 : onotin (kd k) (.dic true (tabF kd 0 s)) = .ok (.bl true) := by rw [onotin_dic hk, f1]; rfl
    have p1 := put_tabF h k s 0 q
    rw [Nat.zero_add] at p1
    have e : addU s k = s ++ [k] := if_neg q
    have f2 := find_tabF h k (s ++ [k]) 0
    rw [if_pos (by simp), Nat.zero_add] at f2
    have e3 : (s ++ [k]).idxOf k = s.idxOf k := by
      have := idx_new (s := s) (k := k)
      rw [e] at this
      exact this
    rw [e3] at f2
    have g1 := oidx_dic (t := true) hk f2
    have b1 : blen (.dic true (tabF kd 0 s)) = .ok (nD s.length) := by rw [blen_dic, tabF_len]
    have hz : (tabF kd 0 s).length < SZ := by rw [tabF_len]; exact hs
    have s1 : setL 1 (var 3) (un blen (var 1)) [some K, some (.dic true (tabF kd 0 s)), some (.lst (out.map nD)), some (kd k)] = .ok (.next [some K, some (.dic true (tabF kd 0 (s ++ [k]))), some (.lst (out.map nD)), some (kd k)]) := by
      rw [setL_dic (t := true) (kvs := tabF kd 0 s) (d := nD s.length) (k := kd k) rfl (by simp [var, b1]) rfl hk hz, p1]
      rfl
    rw [e, List.map_append, List.map_singleton]
    generalize tabF kd 0 (s ++ [k]) = T2 at *
    generalize tabF kd 0 s = T at *
    generalize kd k = X at *
    generalize out.map nD = L at *
    generalize nD (s.idxOf k) = N at *
    simp [var, n1, s1, g1, hl]
theorem num_loop (h : KeyE true kd) (K : D) : ∀ (ks done : List α) (o : Option D), (done ++ ks).length < SZ →
    ∃ o', forL (forB (gnm 3) nmB) (ks.map kd) [some K, some (.dic true (tabF kd 0 (uniq done))), some (.lst ((numb done).map nD)), o] = .ok (.next [some K, some (.dic true (tabF kd 0 (uniq (done ++ ks)))), some (.lst ((numb (done ++ ks)).map nD)), o'])
  | [], done, o, _ => ⟨o, by rw [List.append_nil]; rfl⟩
  | k :: ks, done, o, hz => by
    have hl : done.length < SZ := by rw [List.length_append] at hz; omega
    have q := nm_step h (s := uniq done) (out := numb done) (k := k) (Nat.lt_of_le_of_lt (uniq_len done) hl) (by rw [numb_len]; exact hl) K o
    rw [← uniq_snoc, ← numb_snoc] at q
    obtain ⟨o', q2⟩ := num_loop h K ks (done ++ [k]) (some (kd k)) (by rw [List.append_assoc]; exact hz)
    refine ⟨o', ?_⟩
    rw [List.map_cons, forL, q]
    rw [List.append_assoc] at q2
    exact q2
theorem num_run (h : KeyE true kd) {ks : List α} (hz : ks.length < SZ) : numB [some (.lst (ks.map kd)), none, none, none] = .ok (.ret (.lst ((numb ks).map nD))) := by
  obtain ⟨o', q⟩ := num_loop h (.lst (ks.map kd)) ks [] none (by simpa using hz)
  rw [List.nil_append] at q
  have q' : forL (forB (gnm 3) nmB) (ks.map kd) [some (.lst (ks.map kd)), some (.dic true []), some (.lst []), none] = _ := q
  unfold numB
  simp [var, q']
end
end Py.U
/-! Whatever is drawn: how mirrors that draw are computed. -/
namespace Py.U
open PySem
@[simp] theorem always_ok {α : Type} {P : α → Prop} {a : α} : Always P (.ok a) = P a := rfl
theorem _root_.Py.Always.mono {α : Type} {P Q : α → Prop} {r : Res α} (h : Always P r) (k : ∀ a, P a → Q a) : Always Q r := by
  induction r with
  | ok a => exact k a h
  | exc c fs => exact h
  | stuck => exact h
  | pick n f ih => exact fun i hi => ih i (h i hi)
theorem _root_.Py.Always.bind {α β : Type} {Q : α → Prop} {P : β → Prop} {r : Res α} {f : α → Res β} (h : Always Q r) (k : ∀ a, Q a → Always P (f a)) : Always P (r >>= f) := by
  induction r with
  | ok a => exact k a h
  | exc c fs => exact h.elim
  | stuck => exact h.elim
  | pick n g ih =>
    rw [bind_pick]
    exact fun i hi => ih i (h i hi)
theorem _root_.Py.Always.noexc {α : Type} {P : α → Prop} {r : Res α} (h : Always P r) : Always P (Py.noexc r) := by
  induction r with
  | ok a => exact h
  | exc c fs => exact h.elim
  | stuck => exact h.elim
  | pick n g ih => exact fun i hi => ih i (h i hi)
theorem _root_.Py.Always.done {P : D → Prop} {r : Res Fl} (h : Always (fun f => match f with | .next _ => P .non | .ret d => P d | _ => False) r) : Always P (done r) := by
  unfold Py.done
  refine h.bind fun f hf => ?_
  cases f with
  | next e => exact hf
  | ret d => exact hf
  | brk e => exact hf
  | cnt e => exact hf
/-- a draw -/
theorem pick_a {P : D → Prop} {k : Bool} {n : Nat} (h0 : 0 < n) (h1 : n < 1000000) (h : ∀ i : Nat, i < n → P (nD i)) : Always P (pickF k [.drw (.inl k), nD n]) := by
  show Always P (if k = k ∧ 0 < ((n : Nat) : Int) ∧ ((n : Nat) : Int) < 1073741824 then .pick (((n : Nat) : Int) - 1).toNat (fun i => .ok (.int i)) else .stuck)
  rw [if_pos ⟨rfl, by omega, by omega⟩]
  intro i hi
  exact h i (by omega)
/-- a draw as it is called -/
theorem pickc {Q : D → Prop} {k : Bool} {e : Env} {i : Nat} {m : EM} {d : D} (n : Nat) (h : e[i]? = some (some (.drw (.inl k)))) (hm : m e = .ok d) (hd : d = nD n) (h0 : 0 < n) (h1 : n < 1000000) (q : ∀ i : Nat, i < n → Q (nD i)) : Always Q (call (pickF k) (argC (var i) (argC m argN)) e) := by
  rw [call_eq, argC_eq, var_eq h, bind_ok, argC_eq, hm, bind_ok, hd]
  exact pick_a h0 h1 q
/-! ### statements -/
def NX (I : Env → Prop) (f : Fl) : Prop := ∃ e, f = .next e ∧ I e
theorem seq_a {P : Fl → Prop} {I : Env → Prop} {a b : SM} {e : Env} (h : Always (NX I) (a e)) (k : ∀ e', I e' → Always P (b e')) : Always P (seq a b e) := by
  rw [seq_eq]
  refine h.bind ?_
  rintro f ⟨e', rfl, hI⟩
  exact k e' hI
theorem asg_a {P : Fl → Prop} {Q : D → Prop} {i : Nat} {m : EM} {r : SM} {e : Env} (h : Always Q (m e)) (k : ∀ d, Q d → Always P (r (e.set i (some d)))) : Always P (seq (asg (gnm i) m) r e) := by
  rw [seq_eq, asg_eq]
  refine Always.bind (Q := fun f => ∃ d, Q d ∧ f = .next (e.set i (some d))) (h.bind fun d hd => ⟨d, hd, rfl⟩) ?_
  rintro f ⟨d, hd, rfl⟩
  exact k d hd
theorem asg_1 {P : Fl → Prop} {Q : D → Prop} {i : Nat} {m : EM} {e : Env} (h : Always Q (m e)) (k : ∀ d, Q d → P (.next (e.set i (some d)))) : Always P (asg (gnm i) m e) := by
  rw [asg_eq]
  exact h.bind fun d hd => k d hd
theorem ite_a {P : Fl → Prop} {t : TM} {a b : SM} {e : Env} {c : Bool} (h : t e = .ok c) (h1 : c = true → Always P (a e)) (h2 : c = false → Always P (b e)) : Always P (Py.ite t a b e) := by
  rw [ite_eq, h, bind_ok]
  cases c
  · exact h2 rfl
  · exact h1 rfl
theorem for_a {b : D → Env → Res Fl} (I : Nat → Env → Prop) : ∀ {xs : List D} {e : Env} (k : Nat), I k e → (∀ i e, (h : i < xs.length) → I (k + i) e → Always (NX (I (k + i + 1))) (b xs[i] e)) → Always (NX (I (k + xs.length))) (forL b xs e)
  | [], e, k, h, _ => ⟨e, rfl, h⟩
  | x :: xs, e, k, h, hb => by
    unfold forL
    refine (hb 0 e (by simp) h).bind ?_
    rintro f ⟨e1, rfl, h1⟩
    have q := for_a (b := b) I (xs := xs) (e := e1) (k + 1) h1 fun i e' hi hI => by
      have := hb (i + 1) e' (by simpa using hi) (by rwa [show k + (i + 1) = k + 1 + i by omega])
      rwa [show k + (i + 1) + 1 = k + 1 + i + 1 by omega] at this
    rwa [show k + (x :: xs).length = k + 1 + xs.length by simp; omega]
theorem forR_a {b : D → Env → Res Fl} (I : Nat → Env → Prop) {n : Nat} {e : Env} (h0 : I 0 e) (hb : ∀ i e, i < n → I i e → Always (NX (I (i + 1))) (b (nD i) e)) : Always (NX (I n)) (forL b ((List.range n).map nD) e) := by
  have q := for_a (b := b) (xs := (List.range n).map nD) (e := e) I 0 h0 fun i e' hi hI => by
    have hi' : i < n := by simpa using hi
    have := hb i e' hi' (by rwa [Nat.zero_add] at hI)
    rw [Nat.zero_add]
    simpa using this
  rwa [Nat.zero_add, List.length_map, List.length_range] at q
theorem irng_n {a : EM} {e : Env} {n : Nat} (h : a e = .ok (nD n)) (hn : n ≤ 1000) : irng1 a e = .ok ((List.range n).map nD) := irng1_nat h (rng_lt hn)
/-! ### comprehensions of numbers -/
def RowP (L B : Nat) (d : D) : Prop := ∃ r : List Nat, d = .lst (r.map nD) ∧ r.length = L ∧ ∀ x ∈ r, x < B
theorem comp_a {f : D → Res (Option D)} {B : Nat} : ∀ {xs : List D}, (∀ x ∈ xs, Always (fun o => ∃ a : Nat, a < B ∧ o = some (nD a)) (f x)) → Always (fun ys => ∃ r : List Nat, ys = r.map nD ∧ r.length = xs.length ∧ ∀ x ∈ r, x < B) (compL f xs)
  | [], _ => ⟨[], rfl, rfl, fun _ h => nomatch h⟩
  | x :: xs, h => by
    unfold compL
    refine (h x List.mem_cons_self).bind ?_
    rintro _ ⟨a, ha, rfl⟩
    refine (comp_a (xs := xs) fun y hy => h y (List.mem_cons_of_mem _ hy)).bind ?_
    rintro _ ⟨r, rfl, hl, hr⟩
    refine ⟨a :: r, rfl, by simp [hl], fun y hy => ?_⟩
    rcases List.mem_cons.mp hy with rfl | hy
    · exact ha
    · exact hr y hy
theorem lc_a {it : IM} {vs : List Nat} {j : Nat} {elt : EM} {e : Env} {xs : List D} {B : Nat} (hi : it e = .ok xs) (hz : xs.length ≤ SZ) (he : ∀ x ∈ xs, Always (fun d => ∃ a : Nat, a < B ∧ d = nD a) (elt ((wipe e vs).set j (some x)))) : Always (RowP xs.length B) (lcE it vs (gnm j) yes elt e) := by
  unfold lcE
  rw [hi, bind_ok]
  refine ((comp_a (B := B) fun x hx => ?_).noexc).bind ?_
  · unfold compF
    rw [gnm_eq]
    show Always _ (lift (some _) >>= _)
    rw [lift_some, bind_ok]
    show Always _ (Res.ok true >>= _)
    rw [bind_ok, if_pos rfl]
    refine (he x hx).bind ?_
    rintro _ ⟨a, ha, rfl⟩
    exact ⟨a, ha, rfl⟩
  · rintro _ ⟨r, rfl, hl, hr⟩
    rw [chk_ok hz]
    exact ⟨r, rfl, hl, hr⟩
end Py.U
/-! Classes of states and the least machine, as data. -/
namespace Py.U
theorem wh_next {t : TM} {b : SM} {n : Nat} {e e' : Env} (h : t e = .ok true) (hb : b e = .ok (.next e')) : whileL t b (n + 1) e = whileL t b n e' := by
  show (t e >>= _) = _
  rw [h, bind_ok, if_pos rfl, hb, bind_ok]
theorem wh_ret {t : TM} {b : SM} {n : Nat} {e : Env} {d : D} (h : t e = .ok true) (hb : b e = .ok (.ret d)) : whileL t b (n + 1) e = .ok (.ret d) := by
  show (t e >>= _) = _
  rw [h, bind_ok, if_pos rfl, hb, bind_ok]
theorem wh_stop {t : TM} {b : SM} {n : Nat} {e : Env} (h : t e = .ok false) : whileL t b (n + 1) e = .ok (.next e) := by
  show (t e >>= _) = _
  rw [h, bind_ok, if_neg (by decide)]
theorem asg_p {i : Nat} {m : EM} {r : SM} {e : Env} {d : D} (h : m e = .ok d) : seq (asg (gnm i) m) r e = r (e.set i (some d)) := by
  rw [seq_eq, asg_eq, h]
  rfl
theorem for_p {it : IM} {g : GM} {b r : SM} {e e' : Env} {xs : List D} (h : it e = .ok xs) (h2 : forL (forB g b) xs e = .ok (.next e')) : seq (for_ it g b) r e = r e' := by
  rw [seq_eq, for_eq, h, bind_ok, h2]
  rfl
/-! ### tables -/
def at1 (bs : List Nat) (a : Nat) : Nat := bs.getD a 0
def rw1 (t : List (List Nat)) (i : Nat) : List Nat := t.getD i []
/-- a table of S lines, each of L numbers below B -/
structure Tbl (S L B : Nat) (t : List (List Nat)) : Prop where
  len : t.length = S
  row : ∀ r ∈ t, r.length = L ∧ ∀ x ∈ r, x < B
theorem Tbl.at {S L B : Nat} {t : List (List Nat)} (h : Tbl S L B t) {i : Nat} (hi : i < S) : t[i]? = some (rw1 t i) ∧ (rw1 t i).length = L ∧ ∀ x ∈ rw1 t i, x < B := by
  have hl : i < t.length := by rw [h.len]; exact hi
  obtain ⟨h1, h2⟩ := h.row t[i] (List.getElem_mem hl)
  have e : rw1 t i = t[i] := by
    unfold rw1
    rw [List.getD_eq_getElem?_getD, List.getElem?_eq_getElem hl]
    rfl
  rw [e]
  exact ⟨List.getElem?_eq_getElem hl, h1, h2⟩
def macD (n : Nat) (nx os : List (List Nat)) : D := .ins "Machine" [("inputs", nD n), ("nexts", .tup (nx.map rD)), ("outs", .tup (os.map rD))]
theorem mac_nx (n : Nat) (nx os : List (List Nat)) : oattr ["Machine"] "nexts" (macD n nx os) = .ok (.tup (nx.map rD)) := rfl
theorem mac_os (n : Nat) (nx os : List (List Nat)) : oattr ["Machine"] "outs" (macD n nx os) = .ok (.tup (os.map rD)) := rfl
theorem idx_nL {c : List Nat} {i : Nat} (h : i < c.length) : oidx (.lst (c.map nD)) (nD i) = .ok (nD (at1 c i)) := by
  refine oidx_l ?_
  simp [at1, h]
theorem idx_nT {c : List Nat} {i : Nat} (h : i < c.length) : oidx (rD c) (nD i) = .ok (nD (at1 c i)) := by
  refine oidx_t ?_
  simp [at1, h]
theorem idx_tT {S L B : Nat} {t : List (List Nat)} (h : Tbl S L B t) {i : Nat} (hi : i < S) : oidx (.tup (t.map rD)) (nD i) = .ok (rD (rw1 t i)) := by
  refine oidx_t ?_
  rw [List.getElem?_map, (h.at hi).1]
  rfl
theorem lenN {α : Type} (l : List α) (f : α → D) : blen (.lst (l.map f)) = .ok (nD l.length) := by
  rw [blen_l, List.length_map]
  rfl
theorem szN {α : Type} {l : List α} {f : α → D} (h : l.length ≤ 1000) : (l.map f).length < SZ := by
  rw [List.length_map]
  exact Nat.lt_of_le_of_lt h (by decide)
/-! ### the greatest number -/
theorem foldI : ∀ (r : List Nat) (a : Nat), (r.map fun (n : Nat) => (n : Int)).foldl (fun a b => if b > a then b else a) (a : Int) = ((r.foldl max a : Nat) : Int)
  | [], a => rfl
  | x :: r, a => by
    rw [List.map_cons, List.foldl_cons, List.foldl_cons, ← foldI r (max a x)]
    congr 1
    by_cases h : (x : Int) > (a : Int)
    · rw [if_pos h, Nat.max_eq_right (by omega)]
    · rw [if_neg h, Nat.max_eq_left (by omega)]
theorem bmax_nD {c : List Nat} (h : 0 < c.length) : bmaxL (.lst (c.map nD)) = .ok (nD (mxN c)) := by
  cases c with
  | nil => simp at h
  | cons x r =>
    have e : (x :: r).map nD = ((x :: r).map fun (n : Nat) => (n : Int)).map D.int := by
      rw [List.map_map]
      rfl
    have e2 := intsOf_map ((x :: r).map fun (n : Nat) => (n : Int))
    rw [← e] at e2
    show (match intsOf ((x :: r).map nD) with | some (i :: is) => Res.ok (D.int (is.foldl (fun a b => if b > a then b else a) i)) | _ => .stuck) = _
    rw [e2]
    show Res.ok (D.int ((r.map fun (n : Nat) => (n : Int)).foldl (fun a b => if b > a then b else a) (x : Int))) = _
    rw [foldI]
    have e3 : mxN (x :: r) = r.foldl max x := by
      unfold mxN
      rw [List.foldl_cons, Nat.zero_max]
    rw [e3]
    rfl
def numF : List D → Res D := fn 1 4 numB
theorem numF_run {α : Type} [DecidableEq α] {kd : α → D} (h : KeyE true kd) {ks : List α} (hz : ks.length < SZ) : numF [.lst (ks.map kd)] = .ok (.lst ((numb ks).map nD)) := by
  have q := num_run h hz
  unfold numF
  rw [fn1]
  show done (numB [some (.lst (ks.map kd)), none, none, none]) = _
  rw [q]
  rfl
theorem nat_eqN (a b : Nat) : oeq (nD a) (nD b) = .ok (.bl (decide (a = b))) := by
  show oeq (.int (a : Int)) (.int (b : Int)) = _
  rw [oeq_ii]
  by_cases h : a = b
  · subst h; simp
  · have : ¬ ((a : Int) = (b : Int)) := by omega
    simp [h, this]
/-! ### classes -/
section
variable {S L : Nat} {nx : List (List Nat)}
theorem keyS_D (c : List Nat) (s : Nat) : kpD (keyS nx c s) = .tup [nD (at1 c s), rD ((rw1 nx s).map (at1 c))] := rfl
/-- the classes of a line's goals -/
theorem line_lc {it : IM} {e : Env} {i j : Nat} {c r : List Nat} (hi : it e = .ok (r.map nD)) (hz : r.length ≤ 1000) (h1 : e[i]? = some (some (.lst (c.map nD)))) (hij : i ≠ j) (hj : j < e.length) (hr : ∀ t ∈ r, t < c.length) :
    lcE it [j] (gnm j) yes (bin oidx (var i) (var j)) e = .ok (.lst ((r.map (at1 c)).map nD)) := by
  rw [List.map_map]
  refine lc_mapI (k := nD) hi (le_sz hz) fun y hy => ⟨_, rfl, ?_⟩
  have q := idx_nL (hr y hy)
  have v1 : var i (((wipe e [j])).set j (some (nD y))) = .ok (.lst (c.map nD)) := by
    refine var_eq ?_
    simp only [wipe]
    rw [List.getElem?_set_ne (Ne.symm hij), List.getElem?_set_ne (Ne.symm hij), h1]
  have v2 : var j (((wipe e [j])).set j (some (nD y))) = .ok (nD y) := by
    refine var_eq ?_
    simp only [wipe]
    rw [List.getElem?_set_self (by simpa using hj)]
  rw [bin_eq, v1, bind_ok, v2, bind_ok, q]
  rfl
def kyB : SM := app 2 (tupE (argC (bin oidx (var 1) (var 3)) (argC (un btuple (lcE (iseq (var 4)) [6] (gnm 6) yes (bin oidx (var 1) (var 6)))) argN)))
theorem ky_loop (h : Tbl S L S nx) (hz : S ≤ 1000) (hL : L ≤ 1000) {M : D} {c : List Nat} (hc : c.length = S) (o3 o4 o5 : Option D) :
    ∃ o3' o4', forL (forB (gtup [(gnm 3), (gnm 4)]) kyB) (enumL 0 (nx.map rD)) [some M, some (.lst (c.map nD)), some (.lst []), o3, o4, o5, none] = .ok (.next [some M, some (.lst (c.map nD)), some (.lst (((List.range S).map (keyS nx c)).map kpD)), o3', o4', o5, none]) := by
  have en : ∀ (ds : List D) (k : Nat), (enumL k ds).length = ds.length := by
    intro ds
    induction ds with
    | nil => intro k; rfl
    | cons d ds ih => intro k; simp [enumL, ih]
  have ea : ∀ (ds : List D) (k i : Nat), (enumL k ds)[i]? = (ds[i]?).map fun d => D.tup [.int ((k + i : Nat) : Int), d] := by
    intro ds
    induction ds with
    | nil => intro k i; rfl
    | cons d ds ih =>
      intro k i
      cases i with
      | zero => rfl
      | succ i =>
        show (enumL (k + 1) ds)[i]? = _
        rw [ih]
        congr 1
        funext d
        congr 3
        congr 1
        omega
  obtain ⟨e', q, o3', o4', rfl⟩ := forL_inv (b := forB (gtup [(gnm 3), (gnm 4)]) kyB) (xs := enumL 0 (nx.map rD)) (e := [some M, some (.lst (c.map nD)), some (.lst []), o3, o4, o5, none])
    (fun k E => ∃ o3' o4', E = [some M, some (.lst (c.map nD)), some (.lst (((List.range k).map (keyS nx c)).map kpD)), o3', o4', o5, none]) 0 ⟨o3, o4, rfl⟩ (by
      rintro k E hk ⟨o3', o4', rfl⟩
      have hk2 : k < S := by
        rw [en, List.length_map, h.len] at hk
        exact hk
      have e1 : (enumL 0 (nx.map rD))[k] = .tup [nD k, rD (rw1 nx k)] := by
        have := ea (nx.map rD) 0 k
        rw [List.getElem?_eq_getElem hk, List.getElem?_map, (h.at hk2).1, Nat.zero_add] at this
        exact Option.some.inj this
      have e2 := idx_nL (c := c) (i := k) (by omega)
      have hrl := (h.at hk2).2
      have e3 := line_lc (it := iseq (var 4)) (i := 1) (j := 6) (c := c) (r := rw1 nx k) (e := [some M, some (.lst (c.map nD)), some (.lst (((List.range k).map (keyS nx c)).map kpD)), some (nD k), some (rD (rw1 nx k)), o5, none]) rfl (by omega) rfl (by decide) (by simp) (fun t ht => by rw [hc]; exact hrl.2 t ht)
      have z : (((List.range k).map (keyS nx c)).map kpD).length < SZ := szN (by simp; omega)
      refine ⟨[some M, some (.lst (c.map nD)), some (.lst (((List.range (k + 1)).map (keyS nx c)).map kpD)), some (nD k), some (rD (rw1 nx k)), o5, none], ?_, _, _, by rw [Nat.zero_add]⟩
      rw [Nat.zero_add, List.range_succ, List.map_append, List.map_append, List.map_singleton, List.map_singleton, keyS_D, e1]
      have eR : rD ((rw1 nx k).map (at1 c)) = .tup (((rw1 nx k).map (at1 c)).map nD) := rfl
      rw [eR]
      rw [forB_eq]
      show (lift (some [some M, some (.lst (c.map nD)), some (.lst (((List.range k).map (keyS nx c)).map kpD)), some (nD k), some (rD (rw1 nx k)), o5, none]) >>= kyB) = _
      rw [lift_some, bind_ok]
      unfold kyB
      generalize ((rw1 nx k).map (at1 c)).map nD = G at *
      generalize nD (at1 c k) = A at *
      generalize ((List.range k).map (keyS nx c)).map kpD = KS at *
      generalize rD (rw1 nx k) = RK at *
      generalize nD k = KK at *
      generalize c.map nD = CC at *
      simp only [app_eq, tupE_eq, argC_eq, argN_eq, bin_eq, un_eq, var, List.getElem?_cons_succ, List.getElem?_cons_zero, bind_ok, e2, e3, btuple_l, List.length_cons, List.length_nil, Nat.zero_add, Nat.reduceAdd, chk_2, z, if_true, if_pos, List.set])
  rw [en, List.length_map, h.len, Nat.zero_add] at q
  exact ⟨o3', o4', q⟩
def scW : SM := (seq (asg (gnm 2) (lstE argN))
  (seq (for_ (ienum (un (oattr ["Machine"] "nexts") (var 0))) (gtup [(gnm 3), (gnm 4)]) kyB)
  (seq (asg (gnm 5) (call numF (argC (var 2) argN)))
  (seq (Py.ite (tst (bin oeq (un bmaxL (var 5)) (un bmaxL (var 1)))) (ret (var 1)) skip)
  (asg (gnm 1) (var 5))))))
theorem step_run (h : Tbl S L S nx) (h0 : 0 < S) (hz : S ≤ 1000) (hL : L ≤ 1000) {n : Nat} {os : List (List Nat)} {c : List Nat} (hc : c.length = S) (o2 o3 o4 o5 : Option D) :
    ∃ o2' o3' o4', scW [some (macD n nx os), some (.lst (c.map nD)), o2, o3, o4, o5, none] = .ok (if mxN (stepC nx c) = mxN c then .ret (.lst (c.map nD)) else .next [some (macD n nx os), some (.lst ((stepC nx c).map nD)), o2', o3', o4', some (.lst ((stepC nx c).map nD)), none]) := by
  obtain ⟨o3', o4', q⟩ := ky_loop h hz hL (M := macD n nx os) hc o3 o4 o5
  have e1 := mac_nx n nx os
  have sl : (stepC nx c).length = S := by rw [stepC_len, h.len]
  have e2 : numF [.lst (((List.range S).map (keyS nx c)).map kpD)] = .ok (.lst ((stepC nx c).map nD)) := by
    rw [numF_run key_kp (by simp; exact Nat.lt_of_le_of_lt hz (by decide))]
    unfold stepC
    rw [h.len]
  have e3 := bmax_nD (c := stepC nx c) (by omega)
  have e4 := bmax_nD (c := c) (by omega)
  have e5 := nat_eqN (mxN (stepC nx c)) (mxN c)
  refine ⟨some (.lst (((List.range S).map (keyS nx c)).map kpD)), o3', o4', ?_⟩
  unfold scW
  refine (asg_p (d := .lst []) (by simp)).trans ?_
  refine (for_p (xs := enumL 0 (nx.map rD)) ?_ q).trans ?_
  · generalize macD n nx os = M at *
    generalize nx.map rD = NX at *
    unfold ienum iseq
    simp [var, e1]
  generalize ((List.range S).map (keyS nx c)).map kpD = KS at *
  generalize macD n nx os = M at *
  generalize hs : (stepC nx c).map nD = SC at *
  generalize c.map nD = CC at *
  generalize hm1 : nD (mxN (stepC nx c)) = M1 at *
  generalize hm2 : nD (mxN c) = M2 at *
  by_cases hq : mxN (stepC nx c) = mxN c
  · rw [if_pos hq]
    rw [decide_eq_true hq] at e5
    simp [var, e2, e3, e4, e5]
  · rw [if_neg hq]
    rw [decide_eq_false hq] at e5
    simp [var, e2, e3, e4, e5]
theorem classes_loop (h : Tbl S L S nx) (h0 : 0 < S) (hz : S ≤ 1000) (hL : L ≤ 1000) {n : Nat} {os : List (List Nat)} : ∀ (k fu : Nat) (c : List Nat) (o2 o3 o4 o5 : Option D), Met S c → S ≤ mxN c + k + 1 → k < fu →
    whileL (tst (cst (.bl true))) scW fu [some (macD n nx os), some (.lst (c.map nD)), o2, o3, o4, o5, none] = .ok (.ret (.lst ((clsL nx c k).map nD)))
  | k, 0, c, o2, o3, o4, o5, _, _, hf => by omega
  | k, fu + 1, c, o2, o3, o4, o5, hm, hk, hf => by
    obtain ⟨o2', o3', o4', q⟩ := step_run h h0 hz hL (n := n) (os := os) hm.1 o2 o3 o4 o5
    have hlen := h.len
    obtain ⟨g1, g2⟩ := step_mx (nx := nx) (c := c) (by rw [hlen]; exact hm) (by omega)
    by_cases hq : mxN (stepC nx c) = mxN c
    · rw [if_pos hq] at q
      rw [wh_ret rfl q]
      cases k with
      | zero => rfl
      | succ k => rw [clsL, if_pos hq]
    · rw [if_neg hq] at q
      rw [wh_next rfl q]
      cases k with
      | zero => omega
      | succ k =>
        rw [clsL, if_neg hq]
        refine classes_loop h h0 hz hL k fu (stepC nx c) o2' o3' o4' _ ?_ (by omega) (by omega)
        have := met_step (nx := nx) (c := c)
        rw [hlen] at this
        exact this
def scB : SM := (seq (asg (gnm 1) (call numF (argC (un blist (un (oattr ["Machine"] "outs") (var 0))) argN)))
  (while_ (tst (cst (.bl true))) scW))
def scF : List D → Res D := fn 1 7 scB
/-- the classes of a machine's states -/
def clsM (nx os : List (List Nat)) : List Nat := clsL nx (numb os) nx.length
theorem scF_ok {n : Nat} {os : List (List Nat)} (h : Tbl S L S nx) (ho : os.length = S) (h0 : 0 < S) (hz : S ≤ 1000) (hL : L ≤ 1000) : scF [macD n nx os] = .ok (.lst ((clsM nx os).map nD)) := by
  have e1 := mac_os n nx os
  have e2 := numF_run key_rD (ks := os) (by rw [ho]; exact Nat.lt_of_le_of_lt hz (by decide))
  have e3 : blist (.tup (os.map rD)) = .ok (.lst (os.map rD)) := rfl
  have hm := met_numb os
  rw [ho] at hm
  have hmx := hm.1
  have q := classes_loop h h0 hz hL (n := n) (os := os) S FUEL (numb os) none none none none hm (by omega) (Nat.lt_of_le_of_lt hz (by decide))
  have ec : clsL nx (numb os) S = clsM nx os := by unfold clsM; rw [h.len]
  rw [ec] at q
  unfold scF
  rw [fn1]
  show done (scB [some (macD n nx os), none, none, none, none, none, none]) = _
  unfold scB
  rw [asg_p (d := .lst ((numb os).map nD)) ?_]
  · show done (whileL (tst (cst (.bl true))) scW FUEL [some (macD n nx os), some (.lst ((numb os).map nD)), none, none, none, none, none]) = _
    rw [q]
    rfl
  · generalize macD n nx os = M at *
    generalize os.map rD = OS at *
    generalize (numb os).map nD = NO at *
    simp only [call_eq, argC_eq, argN_eq, un_eq, var, List.getElem?_cons_zero, bind_ok, e1, e3, e2]
theorem clsM_lt {os : List (List Nat)} (h : Tbl S L S nx) (ho : os.length = S) (h0 : 0 < S) : (clsM nx os).length = S ∧ ∀ s, s < S → at1 (clsM nx os) s < S := by
  have hm := met_numb os
  rw [ho, ← h.len] at hm
  have hm2 := cls_met (nx := nx) nx.length (numb os) hm
  have hlen := h.len
  obtain ⟨g1, g2⟩ := step_mx hm2 (by omega)
  refine ⟨by show (clsL nx (numb os) nx.length).length = S; rw [hm2.1, hlen], fun s hs => ?_⟩
  have hmem : at1 (clsM nx os) s ∈ clsM nx os := by
    unfold at1
    have hl : s < (clsM nx os).length := by
      show s < (clsL nx (numb os) nx.length).length
      rw [hm2.1, hlen]
      exact hs
    rw [List.getD_eq_getElem?_getD, List.getElem?_eq_getElem hl]
    exact List.getElem_mem hl
  have := mx_ge hmem
  have e : mxN (clsM nx os) = mxN (clsL nx (numb os) nx.length) := rfl
  omega
end
end Py.U
/-! The search by levels, as data: the program's form and the laws' form. -/
namespace Py.U
section
variable {S L : Nat} {nx : List (List Nat)} {cls : List Nat}
def rowN (C : Nat → Nat) (nx : List (List Nat)) (f : List Nat) (s : Nat) : List Nat := (nx.getD s []).map fun t => (f.map C).idxOf (C t)
def dicC (C : Nat → Nat) (f : List Nat) : D := .dic false (tabF nD 0 (f.map C))
theorem stepT_mem (C : Nat → Nat) (f : List Nat) (t : Nat) : C t ∈ (stepT C f t).map C := by
  unfold stepT
  split
  · assumption
  · simp
theorem idx_pre {C : Nat → Nat} {f r : List Nat} {t : Nat} (h : C t ∈ f.map C) : ((f ++ r).map C).idxOf (C t) = (f.map C).idxOf (C t) := by
  rw [List.map_append]
  exact idx_app h
theorem dic_not {C : Nat → Nat} {f : List Nat} {t : Nat} (h : C t ∉ f.map C) : onotin (nD (C t)) (dicC C f) = .ok (.bl true) ∧ putD (nD (C t)) (nD f.length) (tabF nD 0 (f.map C)) = tabF nD 0 ((f ++ [t]).map C) := by
  have f1 := find_tabF key_nD (C t) (f.map C) 0
  rw [if_neg h] at f1
  refine ⟨?_, ?_⟩
  · show onotin (nD (C t)) (.dic false (tabF nD 0 (f.map C))) = _
    rw [onotin_dic (key_nD.ok _), f1]
    rfl
  · have := put_tabF key_nD (C t) (f.map C) 0 h
    rw [Nat.zero_add, List.length_map] at this
    rw [this, List.map_append]
    rfl
theorem dic_has {C : Nat → Nat} {f : List Nat} {t : Nat} (h : C t ∈ f.map C) : onotin (nD (C t)) (dicC C f) = .ok (.bl false) ∧ oidx (dicC C f) (nD (C t)) = .ok (nD ((f.map C).idxOf (C t))) := by
  have f1 := find_tabF key_nD (C t) (f.map C) 0
  rw [if_pos h, Nat.zero_add] at f1
  refine ⟨?_, oidx_dic (key_nD.ok _) f1⟩
  show onotin (nD (C t)) (.dic false (tabF nD 0 (f.map C))) = _
  rw [onotin_dic (key_nD.ok _), f1]
  rfl
/-! ### the program's form -/
def lmI : SM := (seq (Py.ite (tst (bin onotin (bin oidx (var 1) (var 6)) (var 3))) (seq (setL 3 (bin oidx (var 1) (var 6)) (un blen (var 2)))
  (app 2 (var 6))) skip)
  (app 5 (bin oidx (var 3) (bin oidx (var 1) (var 6)))))
theorem lmI_step {M A : D} {f g : List Nat} {t : Nat} (ht : t < cls.length) (hf : f.length < 1000) (hg : g.length ≤ 1000) (o6 : Option D) :
    forB (gnm 6) lmI (nD t) [some M, some (.lst (cls.map nD)), some (.lst (f.map nD)), some (dicC (at1 cls) f), some A, some (.lst (g.map nD)), o6, none] = .ok (.next [some M, some (.lst (cls.map nD)), some (.lst ((stepT (at1 cls) f t).map nD)), some (dicC (at1 cls) (stepT (at1 cls) f t)), some A, some (.lst ((g ++ [((stepT (at1 cls) f t).map (at1 cls)).idxOf (at1 cls t)]).map nD)), some (nD t), none]) := by
  have e1 := idx_nL ht
  have zg : (g.map nD).length < SZ := szN hg
  have zf : (f.map nD).length < SZ := szN (by omega)
  rw [forB_eq, gnm_eq, lift_some, bind_ok]
  unfold lmI
  show seq _ _ [some M, some (.lst (cls.map nD)), some (.lst (f.map nD)), some (dicC (at1 cls) f), some A, some (.lst (g.map nD)), some (nD t), none] = _
  rw [List.map_append, List.map_singleton]
  by_cases q : at1 cls t ∈ f.map (at1 cls)
  · have e : stepT (at1 cls) f t = f := if_pos q
    rw [e]
    obtain ⟨n1, g1⟩ := dic_has q
    generalize nD ((f.map (at1 cls)).idxOf (at1 cls t)) = N at *
    generalize dicC (at1 cls) f = DC at *
    generalize nD (at1 cls t) = K at *
    generalize g.map nD = G at *
    generalize cls.map nD = CL at *
    generalize nD t = T at *
    simp [var, e1, n1, g1, zg]
  · have e : stepT (at1 cls) f t = f ++ [t] := if_neg q
    obtain ⟨n1, p1⟩ := dic_not q
    have g1 := (dic_has (stepT_mem (at1 cls) f t)).2
    rw [e] at g1 ⊢
    have sl : setL 3 (bin oidx (var 1) (var 6)) (un blen (var 2)) [some M, some (.lst (cls.map nD)), some (.lst (f.map nD)), some (dicC (at1 cls) f), some A, some (.lst (g.map nD)), some (nD t), none] = .ok (.next [some M, some (.lst (cls.map nD)), some (.lst (f.map nD)), some (dicC (at1 cls) (f ++ [t])), some A, some (.lst (g.map nD)), some (nD t), none]) := by
      have b1 := lenN f nD
      have := setL_dic (i := 3) (j := bin oidx (var 1) (var 6)) (m := un blen (var 2)) (e := [some M, some (.lst (cls.map nD)), some (.lst (f.map nD)), some (dicC (at1 cls) f), some A, some (.lst (g.map nD)), some (nD t), none]) (t := false) (kvs := tabF nD 0 (f.map (at1 cls))) (k := nD (at1 cls t)) (d := nD f.length) rfl (by
        generalize f.map nD = FF at *
        simp [var, b1]) (by
        generalize cls.map nD = CL at *
        generalize nD t = T at *
        simp [var, e1]) (key_nD.ok _) (by rw [tabF_len, List.length_map]; exact Nat.lt_trans hf (by decide))
      rw [this, p1]
      rfl
    have ef : (f ++ [t]).map nD = f.map nD ++ [nD t] := by simp
    rw [ef]
    generalize nD (((f ++ [t]).map (at1 cls)).idxOf (at1 cls t)) = N at *
    generalize dicC (at1 cls) (f ++ [t]) = DC2 at *
    generalize dicC (at1 cls) f = DC at *
    generalize nD (at1 cls t) = K at *
    generalize g.map nD = G at *
    generalize f.map nD = FF at *
    generalize cls.map nD = CL at *
    generalize nD t = T at *
    simp [var, e1, n1, g1, zg, zf, sl]
theorem lm_inner {M A : D} (hcl : cls.length = S) (hz : S ≤ 999) (hC : ∀ s, s < S → at1 cls s < S) : ∀ (ts f g : List Nat) (o6 : Option D), Fnd (at1 cls) S f → (∀ t ∈ ts, t < S) → g.length + ts.length ≤ 1000 →
    ∃ o6', forL (forB (gnm 6) lmI) (ts.map nD) [some M, some (.lst (cls.map nD)), some (.lst (f.map nD)), some (dicC (at1 cls) f), some A, some (.lst (g.map nD)), o6, none] = .ok (.next [some M, some (.lst (cls.map nD)), some (.lst ((ts.foldl (stepT (at1 cls)) f).map nD)), some (dicC (at1 cls) (ts.foldl (stepT (at1 cls)) f)), some A, some (.lst ((g ++ ts.map fun t => ((ts.foldl (stepT (at1 cls)) f).map (at1 cls)).idxOf (at1 cls t)).map nD)), o6', none])
  | [], f, g, o6, _, _, _ => ⟨o6, by rw [List.map_nil, List.map_nil, List.append_nil]; rfl⟩
  | t :: ts, f, g, o6, hF, ht, hg => by
    have h1 := lmI_step (M := M) (A := A) (f := f) (g := g) (t := t) (by rw [hcl]; exact ht t List.mem_cons_self) (by have := hF.len hC; omega) (by simp at hg; omega) o6
    obtain ⟨o6', h2⟩ := lm_inner hcl hz hC (M := M) (A := A) ts (stepT (at1 cls) f t) (g ++ [((stepT (at1 cls) f t).map (at1 cls)).idxOf (at1 cls t)]) (some (nD t)) (hF.snoc (ht t List.mem_cons_self)) (fun x hx => ht x (List.mem_cons_of_mem _ hx)) (by simp at hg ⊢; omega)
    refine ⟨o6', ?_⟩
    rw [List.map_cons, forL, h1]
    obtain ⟨r, hr⟩ := foldT_pre (C := at1 cls) ts (stepT (at1 cls) f t)
    have e : ((stepT (at1 cls) f t).map (at1 cls)).idxOf (at1 cls t) = ((ts.foldl (stepT (at1 cls)) (stepT (at1 cls) f t)).map (at1 cls)).idxOf (at1 cls t) := by
      rw [hr, idx_pre (stepT_mem _ f t)]
    rw [List.append_assoc] at h2
    show forL _ _ _ = _
    rw [h2, List.foldl_cons, List.map_cons, e]
    rfl
def rowsA (C : Nat → Nat) (nx : List (List Nat)) (f : List Nat) (a : Nat) : List (List Nat) := (f.take a).map (rowN C nx f)
theorem rows_next {C : Nat → Nat} {n : Nat} {f : List Nat} {a : Nat} (hc : Cld C nx f a) (ha : a < f.length) : rowsA C nx (stepS C nx f (f.getD a 0)) (a + 1) = rowsA C nx f a ++ [rowN C nx (stepS C nx f (f.getD a 0)) (f.getD a 0)] := by
  obtain ⟨r, hr⟩ := stepS_pre (C := C) (nx := nx) f (f.getD a 0)
  unfold rowsA
  have e1 : (stepS C nx f (f.getD a 0)).take (a + 1) = f.take a ++ [f.getD a 0] := by
    rw [hr, List.take_append_of_le_length (by omega), List.take_add_one, List.getElem?_eq_getElem ha]
    simp [List.getD_eq_getElem?_getD, ha]
  rw [e1, List.map_append, List.map_singleton]
  congr 1
  refine List.map_congr_left fun s hs => ?_
  unfold rowN
  refine List.map_congr_left fun t ht => ?_
  obtain ⟨i, hi, rfl⟩ := List.mem_iff_getElem.mp hs
  rw [List.length_take] at hi
  have hi2 : i < a := by omega
  have e2 : (f.take a)[i] = f.getD i 0 := by
    rw [List.getElem_take, List.getD_eq_getElem?_getD, List.getElem?_eq_getElem (by omega)]
    rfl
  rw [e2] at ht
  rw [hr, idx_pre (hc i hi2 t ht)]
def lmW : SM := (seq (asg (gnm 5) (lstE argN))
  (seq (for_ (iseq (bin oidx (un (oattr ["Machine"] "nexts") (var 0)) (bin oidx (var 2) (un blen (var 4))))) (gnm 6) lmI)
  (app 4 (un btuple (var 5)))))
def lmT : TM := tst (bin olt (un blen (var 4)) (un blen (var 2)))
theorem oltN (a b : Nat) : olt (nD a) (nD b) = .ok (.bl (decide (a < b))) := by
  show olt (.int (a : Int)) (.int (b : Int)) = _
  rw [olt_ii]
  congr 2
  exact decide_eq_decide.mpr (by omega)
theorem lm_loop (h : Tbl S L S nx) (hz : S ≤ 999) (hL : L ≤ 1000) (hcl : cls.length = S) (hC : ∀ s, s < S → at1 cls s < S) {n : Nat} {os : List (List Nat)} : ∀ (k fu : Nat) (f : List Nat) (a : Nat) (o5 o6 : Option D), Fnd (at1 cls) S f → Cld (at1 cls) nx f a → a ≤ f.length → S ≤ a + k → k < fu →
    ∃ o5' o6', whileL lmT lmW fu [some (macD n nx os), some (.lst (cls.map nD)), some (.lst (f.map nD)), some (dicC (at1 cls) f), some (.lst ((rowsA (at1 cls) nx f a).map rD)), o5, o6, none] = .ok (.next [some (macD n nx os), some (.lst (cls.map nD)), some (.lst ((bfsL (at1 cls) nx k f a).map nD)), some (dicC (at1 cls) (bfsL (at1 cls) nx k f a)), some (.lst (((bfsL (at1 cls) nx k f a).map (rowN (at1 cls) nx (bfsL (at1 cls) nx k f a))).map rD)), o5', o6', none])
  | k, 0, f, a, o5, o6, _, _, _, _, hf => by omega
  | k, fu + 1, f, a, o5, o6, hF, hc, ha, hk, hf => by
    have hlf := hF.len hC
    have lr : (rowsA (at1 cls) nx f a).length = a := by
      unfold rowsA
      rw [List.length_map, List.length_take]
      omega
    have e1 := lenN (rowsA (at1 cls) nx f a) rD
    rw [lr] at e1
    have e2 := lenN f nD
    have e3 := oltN a f.length
    have ht : lmT [some (macD n nx os), some (.lst (cls.map nD)), some (.lst (f.map nD)), some (dicC (at1 cls) f), some (.lst ((rowsA (at1 cls) nx f a).map rD)), o5, o6, none] = .ok (decide (a < f.length)) := by
      unfold lmT
      generalize (rowsA (at1 cls) nx f a).map rD = R at *
      generalize f.map nD = FF at *
      generalize dicC (at1 cls) f = DC at *
      generalize macD n nx os = M at *
      generalize nD a = A at *
      generalize nD f.length = FL at *
      simp [var, e1, e2, e3]
    by_cases q : a < f.length
    · rw [decide_eq_true q] at ht
      cases k with
      | zero => omega
      | succ k =>
        have hs : f.getD a 0 < S := hF.lt _ (by
          rw [List.getD_eq_getElem?_getD, List.getElem?_eq_getElem q]
          exact List.getElem_mem q)
        have hN : ∀ t ∈ nx.getD (f.getD a 0) [], t < S := fun t ht => (h.at hs).2.2 t ht
        obtain ⟨g1, g2⟩ := hF.step (nx := nx) hN
        obtain ⟨r, hr⟩ := stepS_pre (C := at1 cls) (nx := nx) f (f.getD a 0)
        have hc' : Cld (at1 cls) nx (stepS (at1 cls) nx f (f.getD a 0)) (a + 1) := fun i hi t ht => by
          by_cases hia : i = a
          · subst hia
            have e : (stepS (at1 cls) nx f (f.getD i 0)).getD i 0 = f.getD i 0 := by rw [hr, getD_pre q]
            rw [e] at ht
            exact g2 t ht
          · have hi' : i < a := by omega
            have e : (stepS (at1 cls) nx f (f.getD a 0)).getD i 0 = f.getD i 0 := by rw [hr, getD_pre (by omega)]
            rw [e] at ht
            have := hc i hi' t ht
            rw [hr, List.map_append]
            exact List.mem_append_left _ this
        obtain ⟨o6', hi⟩ := lm_inner (M := macD n nx os) (A := .lst ((rowsA (at1 cls) nx f a).map rD)) hcl hz hC (nx.getD (f.getD a 0) []) f [] o6 hF hN (by
          have := (h.at hs).2.1
          unfold rw1 at this
          rw [this]
          simp
          exact hL)
        rw [List.nil_append] at hi
        have hb : lmW [some (macD n nx os), some (.lst (cls.map nD)), some (.lst (f.map nD)), some (dicC (at1 cls) f), some (.lst ((rowsA (at1 cls) nx f a).map rD)), o5, o6, none] = .ok (.next [some (macD n nx os), some (.lst (cls.map nD)), some (.lst ((stepS (at1 cls) nx f (f.getD a 0)).map nD)), some (dicC (at1 cls) (stepS (at1 cls) nx f (f.getD a 0))), some (.lst ((rowsA (at1 cls) nx (stepS (at1 cls) nx f (f.getD a 0)) (a + 1)).map rD)), some (.lst ((rowN (at1 cls) nx (stepS (at1 cls) nx f (f.getD a 0)) (f.getD a 0)).map nD)), o6', none]) := by
          have e4 := mac_nx n nx os
          have e5 : oidx (.lst (f.map nD)) (nD a) = .ok (nD (f.getD a 0)) := idx_nL q
          have e6 : oidx (.tup (nx.map rD)) (nD (f.getD a 0)) = .ok (.tup ((nx.getD (f.getD a 0) []).map nD)) := idx_tT h hs
          have zr : ((rowsA (at1 cls) nx f a).map rD).length < SZ := szN (by omega)
          rw [rows_next (n := S) hc q, List.map_append, List.map_singleton]
          change forL _ _ _ = .ok (.next [_, _, some (.lst ((stepS (at1 cls) nx f (f.getD a 0)).map nD)), some (dicC (at1 cls) (stepS (at1 cls) nx f (f.getD a 0))), _, some (.lst ((rowN (at1 cls) nx (stepS (at1 cls) nx f (f.getD a 0)) (f.getD a 0)).map nD)), _, _]) at hi
          unfold lmW
          refine (asg_p (d := .lst []) (by simp)).trans ?_
          refine (for_p (xs := (nx.getD (f.getD a 0) []).map nD) ?_ hi).trans ?_
          · generalize (rowsA (at1 cls) nx f a).map rD = R at *
            generalize (nx.getD (f.getD a 0) []).map nD = TS at *
            generalize f.map nD = FF at *
            generalize dicC (at1 cls) f = DC at *
            generalize macD n nx os = M at *
            generalize nx.map rD = NX at *
            generalize nD (f.getD a 0) = FA at *
            generalize nD a = A at *
            simp [var, e4, e1, e5, e6]
          · have er : rD (rowN (at1 cls) nx (stepS (at1 cls) nx f (f.getD a 0)) (f.getD a 0)) = .tup ((rowN (at1 cls) nx (stepS (at1 cls) nx f (f.getD a 0)) (f.getD a 0)).map nD) := rfl
            rw [er]
            generalize (rowN (at1 cls) nx (stepS (at1 cls) nx f (f.getD a 0)) (f.getD a 0)).map nD = RN at *
            generalize (rowsA (at1 cls) nx f a).map rD = R at *
            simp [var, zr]
        rw [wh_next ht hb, bfsL, if_pos q]
        exact lm_loop h hz hL hcl hC k fu _ (a + 1) _ _ g1 hc' (by rw [hr, List.length_append]; omega) (by omega) (by omega)
    · rw [decide_eq_false q] at ht
      have ea : a = f.length := by omega
      have eb : bfsL (at1 cls) nx k f a = f := by
        cases k with
        | zero => rfl
        | succ k => rw [bfsL, if_neg q]
      rw [wh_stop ht, eb]
      refine ⟨o5, o6, ?_⟩
      have er : rowsA (at1 cls) nx f a = f.map (rowN (at1 cls) nx f) := by
        unfold rowsA
        rw [ea, List.take_length]
      rw [er]
/-- the states found -/
def fndM (nx os : List (List Nat)) : List Nat := bfsL (at1 (clsM nx os)) nx nx.length [0] 0
def lsN (nx os : List (List Nat)) : List (List Nat) := (fndM nx os).map (rowN (at1 (clsM nx os)) nx (fndM nx os))
def lsO (nx os : List (List Nat)) : List (List Nat) := (fndM nx os).map (rw1 os)
theorem fnd_0 {C : Nat → Nat} {S : Nat} (h0 : 0 < S) : Fnd C S [0] := ⟨by simp, fun s hs => by rw [List.mem_singleton.mp hs]; exact h0⟩
theorem cld_0 {C : Nat → Nat} {f : List Nat} : Cld C nx f 0 := fun i hi => by omega
theorem fndM_ok {os : List (List Nat)} (h : Tbl S L S nx) (ho : os.length = S) (h0 : 0 < S) : Fnd (at1 (clsM nx os)) S (fndM nx os) ∧ Cld (at1 (clsM nx os)) nx (fndM nx os) (fndM nx os).length ∧ (fndM nx os).length ≤ S ∧ ∃ r, fndM nx os = [0] ++ r := by
  obtain ⟨c1, c2⟩ := clsM_lt h ho h0
  obtain ⟨g1, g2⟩ := bfs_ok (C := at1 (clsM nx os)) (nx := nx) (n := S) (fun s hs t ht => (h.at hs).2.2 t ht) nx.length [0] 0 (fnd_0 h0) cld_0 (by simp)
  have hl := g1.len c2
  exact ⟨g1, g2 (by have e := h.len; omega), hl, bfs_pre _ _ _⟩
theorem lsN_tbl {os : List (List Nat)} (h : Tbl S L S nx) (ho : os.length = S) (h0 : 0 < S) : Tbl (fndM nx os).length L (fndM nx os).length (lsN nx os) := by
  obtain ⟨g1, g2, g3, _⟩ := fndM_ok h ho h0
  refine ⟨by simp [lsN], fun r hr => ?_⟩
  obtain ⟨s, hs, rfl⟩ := List.mem_map.mp hr
  have hs2 := g1.lt s hs
  have hrow := (h.at hs2).2
  unfold rw1 at hrow
  refine ⟨by unfold rowN; rw [List.length_map]; exact hrow.1, fun x hx => ?_⟩
  obtain ⟨t, ht, rfl⟩ := List.mem_map.mp hx
  obtain ⟨i, hi, rfl⟩ := List.mem_iff_getElem.mp hs
  have e : (fndM nx os)[i] = (fndM nx os).getD i 0 := by rw [List.getD_eq_getElem?_getD, List.getElem?_eq_getElem hi]; rfl
  rw [e] at ht
  have := List.idxOf_lt_length_of_mem (g2 i hi t ht)
  simpa using this
theorem lsO_tbl {os : List (List Nat)} {B : Nat} (h : Tbl S L S nx) (ho : Tbl S L B os) (h0 : 0 < S) : Tbl (fndM nx os).length L B (lsO nx os) := by
  obtain ⟨g1, g2, g3, _⟩ := fndM_ok h ho.len h0
  refine ⟨by simp [lsO], fun r hr => ?_⟩
  obtain ⟨s, hs, rfl⟩ := List.mem_map.mp hr
  exact (ho.at (g1.lt s hs)).2
end
end Py.U
/-! The laws' form of the least machine. -/
/-! What a machine writes; the least machine writes the same; closures of searches. No program in sight. -/
namespace Py.U
/-! ### what is written -/
def wr (nx os : List (List Nat)) (s : Nat) : List Nat → List Nat
  | [] => []
  | l :: ls => at1 (rw1 os s) l :: wr nx os (at1 (rw1 nx s) l) ls
section
variable {α β : Type} [DecidableEq α] [DecidableEq β]
theorem idx_inj {l : List α} {x y : α} (hx : x ∈ l) (hy : y ∈ l) (h : l.idxOf x = l.idxOf y) : x = y := by
  have h1 := List.idxOf_lt_length_of_mem hx
  have h2 := List.idxOf_lt_length_of_mem hy
  have e1 : l[l.idxOf x] = x := List.getElem_idxOf h1
  have e2 : l[l.idxOf y] = y := List.getElem_idxOf h2
  rw [← e1, ← e2]
  congr 1
theorem at1_numb {ks : List α} {i : Nat} (h : i < ks.length) : at1 (numb ks) i = (uniq ks).idxOf ks[i] := by
  unfold at1 numb
  rw [List.getD_eq_getElem?_getD, List.getElem?_map, List.getElem?_eq_getElem h]
  rfl
theorem numb_inj {ks : List α} {i j : Nat} (hi : i < ks.length) (hj : j < ks.length) (h : at1 (numb ks) i = at1 (numb ks) j) : ks[i] = ks[j] := by
  rw [at1_numb hi, at1_numb hj] at h
  exact idx_inj (mem_uniq.mpr (List.getElem_mem hi)) (mem_uniq.mpr (List.getElem_mem hj)) h
theorem inj_of_len {f : α → β} {us : List α} {vs : List β} (hu : us.Nodup) (hv : vs.Nodup) (hs : ∀ v ∈ vs, ∃ u ∈ us, f u = v) (hl : us.length ≤ vs.length) {u u' : α} (h1 : u ∈ us) (h2 : u' ∈ us) (h : f u = f u') : u = u' := by
  by_cases q : u = u'
  · exact q
  · have sub : vs ⊆ (us.erase u).map f := fun v hv => by
      obtain ⟨w, hw, rfl⟩ := hs v hv
      by_cases e : w = u
      · rw [e, h]
        exact List.mem_map.mpr ⟨u', (List.mem_erase_of_ne (fun z => q z.symm)).mpr h2, rfl⟩
      · exact List.mem_map.mpr ⟨w, (List.mem_erase_of_ne e).mpr hw, rfl⟩
    have l1 := hv.length_le_of_subset sub
    rw [List.length_map, List.length_erase_of_mem h1] at l1
    have l2 := List.length_pos_of_mem h1
    omega
end
section
variable {S L : Nat} {nx os : List (List Nat)}
theorem rw1_get {t : List (List Nat)} {i : Nat} (h : i < t.length) : rw1 t i = t[i] := by
  unfold rw1
  rw [List.getD_eq_getElem?_getD, List.getElem?_eq_getElem h]
  rfl
def RefO (S : Nat) (os : List (List Nat)) (c : List Nat) : Prop := ∀ s s', s < S → s' < S → at1 c s = at1 c s' → rw1 os s = rw1 os s'
theorem step_key (h : Tbl S L S nx) {c : List Nat} {s s' : Nat} (hs : s < S) (hs' : s' < S) (e : at1 (stepC nx c) s = at1 (stepC nx c) s') : keyS nx c s = keyS nx c s' := by
  unfold stepC at e
  have l : ((List.range nx.length).map (keyS nx c)).length = S := by simp [h.len]
  have := numb_inj (ks := (List.range nx.length).map (keyS nx c)) (i := s) (j := s') (by omega) (by omega) e
  simpa using this
theorem refO_numb (ho : os.length = S) : RefO S os (numb os) := fun s s' hs hs' e => by
  have := numb_inj (ks := os) (i := s) (j := s') (by omega) (by omega) e
  rw [rw1_get (by omega), rw1_get (by omega)]
  exact this
theorem refO_cls (h : Tbl S L S nx) : ∀ (k : Nat) (c : List Nat), RefO S os c → RefO S os (clsL nx c k)
  | 0, c, hc => hc
  | k + 1, c, hc => by
    rw [clsL]
    split
    · exact hc
    · refine refO_cls h k _ fun s s' hs hs' e => hc s s' hs hs' ?_
      have := congrArg Prod.fst (step_key h hs hs' e)
      exact this
theorem cls_stable (h : Tbl S L S nx) (ho : os.length = S) (h0 : 0 < S) {s s' : Nat} (hs : s < S) (hs' : s' < S) (e : at1 (clsM nx os) s = at1 (clsM nx os) s') : keyS nx (clsM nx os) s = keyS nx (clsM nx os) s' := by
  have hm := met_numb os
  rw [ho, ← h.len] at hm
  have hn : 0 < nx.length := by rw [h.len]; exact h0
  have hm2 := cls_met (nx := nx) nx.length (numb os) hm
  have hend := cls_end hn nx.length (numb os) hm (by omega)
  change Met nx.length (clsM nx os) at hm2
  change mxN (stepC nx (clsM nx os)) = mxN (clsM nx os) at hend
  generalize clsM nx os = c at *
  have h1 := hm2.2 hn
  have h2 : mxN (stepC nx c) + 1 = _ := numb_mx (ks := (List.range nx.length).map (keyS nx c)) (by
    intro e
    have := congrArg List.length e
    simp at this
    rw [this] at hn
    simp at hn)
  have ec : c = ((List.range nx.length).map (keyS nx c)).map Prod.fst := by
    rw [List.map_map]
    exact (range_getD hm2.1).symm
  have mem : ∀ s, s < S → keyS nx c s ∈ uniq ((List.range nx.length).map (keyS nx c)) := fun s hs => mem_uniq.mpr (List.mem_map.mpr ⟨s, List.mem_range.mpr (by rw [h.len]; exact hs), rfl⟩)
  refine inj_of_len (f := Prod.fst) (uniq_nodup _) (uniq_nodup c) (fun v hv => ?_) (by omega) (mem s hs) (mem s' hs') e
  have hv2 := mem_uniq.mp hv
  rw [ec] at hv2
  obtain ⟨u, hu, rfl⟩ := List.mem_map.mp hv2
  exact ⟨u, mem_uniq.mpr hu, rfl⟩
theorem cls_goal (h : Tbl S L S nx) (ho : os.length = S) (h0 : 0 < S) {s s' l : Nat} (hs : s < S) (hs' : s' < S) (hl : l < L) (e : at1 (clsM nx os) s = at1 (clsM nx os) s') : at1 (clsM nx os) (at1 (rw1 nx s) l) = at1 (clsM nx os) (at1 (rw1 nx s') l) := by
  have k := congrArg Prod.snd (cls_stable h ho h0 hs hs' e)
  have l1 := (h.at hs).2.1
  have l2 := (h.at hs').2.1
  have k2 := congrArg (fun r => r.getD l 0) k
  simp only [keyS] at k2
  change ((rw1 nx s).map (at1 (clsM nx os))).getD l 0 = ((rw1 nx s').map (at1 (clsM nx os))).getD l 0 at k2
  rw [List.getD_eq_getElem?_getD, List.getD_eq_getElem?_getD, List.getElem?_map, List.getElem?_map, List.getElem?_eq_getElem (by omega), List.getElem?_eq_getElem (by omega)] at k2
  unfold at1 at k2 ⊢
  rw [List.getD_eq_getElem?_getD (l := rw1 nx s), List.getElem?_eq_getElem (by omega), List.getD_eq_getElem?_getD (l := rw1 nx s'), List.getElem?_eq_getElem (by omega)]
  exact k2
theorem at1_mem {r : List Nat} {l : Nat} (h : l < r.length) : at1 r l ∈ r := by
  unfold at1
  rw [List.getD_eq_getElem?_getD, List.getElem?_eq_getElem h]
  exact List.getElem_mem h
theorem rw1_map {f : Nat → List Nat} {F : List Nat} {i : Nat} (h : i < F.length) : rw1 (F.map f) i = f (F.getD i 0) := by
  unfold rw1
  rw [List.getD_eq_getElem?_getD, List.getElem?_map, List.getElem?_eq_getElem h, List.getD_eq_getElem?_getD, List.getElem?_eq_getElem h]
  rfl
theorem at1_map {f : Nat → Nat} {r : List Nat} {l : Nat} (h : l < r.length) : at1 (r.map f) l = f (at1 r l) := by
  unfold at1
  rw [List.getD_eq_getElem?_getD, List.getElem?_map, List.getElem?_eq_getElem h, List.getD_eq_getElem?_getD, List.getElem?_eq_getElem h]
  rfl
/-- the least machine writes the same -/
theorem ls_wr {B : Nat} (h : Tbl S L S nx) (ho : Tbl S L B os) (h0 : 0 < S) : ∀ (ls : List Nat), (∀ l ∈ ls, l < L) → ∀ i s, i < (fndM nx os).length → s < S → at1 (clsM nx os) ((fndM nx os).getD i 0) = at1 (clsM nx os) s → wr (lsN nx os) (lsO nx os) i ls = wr nx os s ls
  | [], _, i, s, _, _, _ => rfl
  | l :: ls, hl, i, s, hi, hs, e => by
    obtain ⟨g1, g2, g3, _⟩ := fndM_ok h ho.len h0
    have hFi : (fndM nx os).getD i 0 < S := g1.lt _ (by
      rw [List.getD_eq_getElem?_getD, List.getElem?_eq_getElem hi]
      exact List.getElem_mem hi)
    have hl0 := hl l List.mem_cons_self
    have ro : rw1 (lsO nx os) i = rw1 os ((fndM nx os).getD i 0) := rw1_map hi
    have rn : rw1 (lsN nx os) i = rowN (at1 (clsM nx os)) nx (fndM nx os) ((fndM nx os).getD i 0) := rw1_map hi
    have hrow := (h.at hFi).2
    have er : RefO S os (clsM nx os) := refO_cls h _ _ (refO_numb ho.len)
    unfold wr
    rw [ro, er _ _ hFi hs e]
    congr 1
    have en : at1 (rw1 (lsN nx os) i) l = ((fndM nx os).map (at1 (clsM nx os))).idxOf (at1 (clsM nx os) (at1 (rw1 nx ((fndM nx os).getD i 0)) l)) := by
      rw [rn]
      unfold rowN
      exact at1_map (show l < (rw1 nx ((fndM nx os).getD i 0)).length by omega)
    rw [en]
    have hin : at1 (clsM nx os) (at1 (rw1 nx ((fndM nx os).getD i 0)) l) ∈ (fndM nx os).map (at1 (clsM nx os)) := g2 i hi _ (at1_mem (r := rw1 nx ((fndM nx os).getD i 0)) (by omega))
    have hj := List.idxOf_lt_length_of_mem hin
    have ej := List.getElem_idxOf hj
    rw [List.length_map] at hj
    refine ls_wr h ho h0 ls (fun x hx => hl x (List.mem_cons_of_mem _ hx)) _ _ hj ((h.at hs).2.2 _ (at1_mem (by have := (h.at hs).2.1; omega))) ?_
    rw [List.getElem_map] at ej
    rw [List.getD_eq_getElem?_getD, List.getElem?_eq_getElem hj, Option.getD_some, ej]
    exact cls_goal h ho.len h0 hFi hs hl0 e
end
/-! ### closures -/
section
variable {α : Type} [DecidableEq α]
theorem addU_pre (f : List α) (t : α) : ∃ r, addU f t = f ++ r := by
  unfold addU
  split
  · exact ⟨[], by simp⟩
  · exact ⟨[t], rfl⟩
theorem foldU_pre : ∀ (ts f : List α), ∃ r, ts.foldl addU f = f ++ r
  | [], f => ⟨[], by simp⟩
  | t :: ts, f => by
    obtain ⟨r, hr⟩ := addU_pre f t
    obtain ⟨r2, hr2⟩ := foldU_pre ts (f ++ r)
    exact ⟨r ++ r2, by rw [List.foldl_cons, hr, hr2, List.append_assoc]⟩
variable {succ : α → List α}
/-- the successors of the first a are found -/
def CldU (succ : α → List α) (f : List α) (a : Nat) : Prop := ∀ i p, i < a → f[i]? = some p → ∀ q ∈ succ p, q ∈ f
structure FndU (P : α → Prop) (f : List α) : Prop where
  nd : f.Nodup
  all : ∀ p ∈ f, P p
theorem FndU.step {P : α → Prop} (hP : ∀ p, P p → ∀ q ∈ succ p, P q) {f : List α} (h : FndU P f) {p : α} (hp : P p) : FndU P ((succ p).foldl addU f) ∧ ∀ q ∈ succ p, q ∈ (succ p).foldl addU f := by
  obtain ⟨h1, h2⟩ := foldU (succ p) f h.nd
  refine ⟨⟨h1, fun x hx => ?_⟩, fun q hq => (h2 q).mpr (.inr hq)⟩
  rcases (h2 x).mp hx with q | q
  · exact h.all x q
  · exact hP p hp x q
theorem CldU.step {f : List α} {a : Nat} (h : CldU succ f a) {p : α} (hp : f[a]? = some p) : CldU succ ((succ p).foldl addU f) (a + 1) := fun i x hi hx q hq => by
  obtain ⟨r, hr⟩ := foldU_pre (succ p) f
  have ha : a < f.length := by
    by_cases c : a < f.length
    · exact c
    · rw [List.getElem?_eq_none (by omega)] at hp
      cases hp
  rw [hr] at hx ⊢
  rw [List.getElem?_append_left (by omega)] at hx
  by_cases e : i = a
  · subst e
    rw [hp] at hx
    cases hx
    rw [← hr]
    have : ∀ (ts f : List α) (q : α), q ∈ ts → q ∈ ts.foldl addU f := by
      intro ts
      induction ts with
      | nil => intro f q h; cases h
      | cons t ts ih =>
        intro f q h
        rw [List.foldl_cons]
        rcases List.mem_cons.mp h with rfl | h
        · obtain ⟨r, hr⟩ := foldU_pre ts (addU f q)
          rw [hr]
          exact List.mem_append_left _ (mem_addU.mpr (.inr rfl))
        · exact ih _ q h
    exact this _ _ _ hq
  · exact List.mem_append_left _ (h i x (by omega) hx q hq)
/-- the numbers of the successors -/
def cn (succ : α → List α) (f : List α) (p : α) : List Nat := (succ p).map fun q => f.idxOf q
end
end Py.U
/-! The least of the least machine is itself. -/
namespace Py.U
theorem numb_same {α : Type} [DecidableEq α] {ks : List α} {i j : Nat} (hi : i < ks.length) (hj : j < ks.length) (h : ks[i] = ks[j]) : at1 (numb ks) i = at1 (numb ks) j := by
  rw [at1_numb hi, at1_numb hj, h]
theorem row_ext {r r' : List Nat} {L : Nat} {c : Nat → Nat} (h1 : r.length = L) (h2 : r'.length = L) (h : ∀ l, l < L → c (at1 r l) = c (at1 r' l)) : r.map c = r'.map c := by
  apply List.ext_getElem
  · simp [h1, h2]
  · intro i a b
    rw [List.length_map] at a b
    have q := h i (by omega)
    unfold at1 at q
    rw [List.getD_eq_getElem?_getD, List.getD_eq_getElem?_getD, List.getElem?_eq_getElem a, List.getElem?_eq_getElem b] at q
    simp only [List.getElem_map]
    exact q
section
variable {S L : Nat} {nx os : List (List Nat)}
theorem key_same (h : Tbl S L S nx) {c : List Nat} {s s' : Nat} (hs : s < S) (hs' : s' < S) (e : at1 c s = at1 c s') (eg : ∀ l, l < L → at1 c (at1 (rw1 nx s) l) = at1 c (at1 (rw1 nx s') l)) : at1 (stepC nx c) s = at1 (stepC nx c) s' := by
  unfold stepC
  have hl := h.len
  refine numb_same (by simp; omega) (by simp; omega) ?_
  simp only [List.getElem_map, List.getElem_range]
  unfold keyS
  exact Prod.ext e (row_ext (c := at1 c) (h.at hs).2.1 (h.at hs').2.1 eg)
theorem fnd_lt (h : Tbl S L S nx) (ho : os.length = S) (h0 : 0 < S) {i : Nat} (hi : i < (fndM nx os).length) : (fndM nx os).getD i 0 < S := by
  obtain ⟨g1, g2, g3, _⟩ := fndM_ok h ho h0
  exact g1.lt _ (by
      rw [List.getD_eq_getElem?_getD, List.getElem?_eq_getElem hi]
      exact List.getElem_mem hi)
theorem ls_goal (h : Tbl S L S nx) (ho : os.length = S) (h0 : 0 < S) {i l : Nat} (hi : i < (fndM nx os).length) (hl : l < L) : at1 (rw1 (lsN nx os) i) l < (fndM nx os).length ∧ at1 (clsM nx os) ((fndM nx os).getD (at1 (rw1 (lsN nx os) i) l) 0) = at1 (clsM nx os) (at1 (rw1 nx ((fndM nx os).getD i 0)) l) := by
  obtain ⟨g1, g2, g3, _⟩ := fndM_ok h ho h0
  have hFi := fnd_lt h ho h0 hi
  have rn : rw1 (lsN nx os) i = rowN (at1 (clsM nx os)) nx (fndM nx os) ((fndM nx os).getD i 0) := rw1_map hi
  have hrow := (h.at hFi).2
  have en : at1 (rw1 (lsN nx os) i) l = ((fndM nx os).map (at1 (clsM nx os))).idxOf (at1 (clsM nx os) (at1 (rw1 nx ((fndM nx os).getD i 0)) l)) := by
    rw [rn]
    unfold rowN
    exact at1_map (show l < (rw1 nx ((fndM nx os).getD i 0)).length by omega)
  have hin : at1 (clsM nx os) (at1 (rw1 nx ((fndM nx os).getD i 0)) l) ∈ (fndM nx os).map (at1 (clsM nx os)) := g2 i hi _ (at1_mem (r := rw1 nx ((fndM nx os).getD i 0)) (by omega))
  have hj := List.idxOf_lt_length_of_mem hin
  have ej := List.getElem_idxOf hj
  rw [List.length_map] at hj
  rw [en]
  refine ⟨hj, ?_⟩
  rw [List.getElem_map] at ej
  rw [List.getD_eq_getElem?_getD, List.getElem?_eq_getElem hj, Option.getD_some, ej]
/-! ### the search in the least machine -/
end
end Py.U
namespace Py.U
open PySem
theorem nat_eq (a b : Nat) : oeq (nD a) (nD b) = .ok (.bl (decide (a = b))) := by
  unfold nD
  rw [oeq_ii]
  congr 2
  rw [Bool.eq_iff_iff]
  simp only [beq_iff_eq, decide_eq_true_eq]
  exact Int.ofNat_inj
theorem str_eq (a b : String) : oeq (.str a) (.str b) = .ok (.bl (a == b)) := rfl
theorem nadd (a b : Nat) : oadd (nD a) (nD b) = .ok (nD (a + b)) := by
  unfold nD
  rw [oadd_ii]
  rfl
theorem enum_at {ds : List D} {k i : Nat} (h : i < (enumL k ds).length) (h2 : i < ds.length) : (enumL k ds)[i] = .tup [.int ((k + i : Nat) : Int), ds[i]] := by
  induction ds generalizing k i with
  | nil => simp at h2
  | cons d ds ih =>
    cases i with
    | zero => rfl
    | succ i =>
      simp only [enumL, List.getElem_cons_succ]
      rw [ih (k := k + 1) _ (by simpa using h2)]
      rw [show k + 1 + i = k + (i + 1) by omega]
theorem enum_len : ∀ (ds : List D) (k : Nat), (enumL k ds).length = ds.length
  | [], _ => rfl
  | d :: ds, k => by
    simp only [enumL, List.length_cons]
    rw [enum_len ds]
theorem isint_ok (n : Nat) : m_is_integer [nD n] = .ok (.bl true) := by
  have h1 : oisi CS [.int] (nD n) = .ok (.bl true) := rfl
  have h2 : oisi CS [.bl] (nD n) = .ok (.bl false) := rfl
  unfold m_is_integer
  rw [fn1]
  unfold b_is_integer
  generalize nD n = N at *
  simp [var, h1, h2]
theorem is_below_ok (a b : Nat) : m_is_below [nD a, nD b] = .ok (.bl (decide (a < b))) := by
  have h := isint_ok a
  have h1 : ole (.int 0) (nD a) = .ok (.bl true) := by
    unfold nD
    rw [ole_ii, decide_eq_true (by omega)]
  have h2 : olt (nD a) (nD b) = .ok (.bl (decide (a < b))) := by
    unfold nD
    rw [olt_ii]
    congr 2
    exact decide_eq_decide.mpr (by omega)
  unfold m_is_below
  rw [fn2]
  unfold b_is_below
  generalize nD a = A at *
  generalize nD b = B at *
  simp [var, h, h1, h2]
theorem shl_nD {n : Nat} (h : n ≤ 1000) : oshl (.int 1) (nD n) = .ok (nD (2 ^ n)) := by
  unfold nD
  rw [oshl1 n h]
  simp
/-! ### the same? -/
/-! ### the row is made -/
theorem inputs_ok {n : Nat} (h1 : 1 ≤ n) (h3 : n ≤ 3) : m_is_inputs [nD n] = .ok (.bl true) := by
  have : n = 1 ∨ n = 2 ∨ n = 3 := by omega
  rcases this with rfl | rfl | rfl <;> rfl
theorem made_eq {p n : Nat} {cls : String} {body : SM} {ds : List D} {c : String} {fs : List (String × D)} {r : Env} (hl : ds.length + 1 = p) (h : body ((some (.ins cls []) :: ds.map some) ++ List.replicate (n - p) none) = .ok (.next (some (.ins c fs) :: r))) : made p n cls body ds = .ok (.ins c fs) := by
  unfold made
  rw [if_pos hl, h]
  rfl
/-! ### numbers from nought -/
theorem nsub {a b : Nat} (h : b ≤ a) : osub (nD a) (nD b) = .ok (nD (a - b)) := by
  unfold nD
  rw [osub_ii]
  congr 2
  omega
theorem cut_take {α : Type} (xs : List α) {k : Nat} (h : k ≤ xs.length) : cut xs none (some (k : Int)) = xs.take k := by
  unfold cut
  have e0 : HT.sIx xs.length 0 none = 0 := rfl
  have e1 : HT.sIx xs.length xs.length (some (k : Int)) = k := by rw [HT.sIx_nat, Nat.min_eq_left h]
  rw [e0, e1, List.drop_zero, Nat.sub_zero]
/-! ### letters drawn -/
theorem chk_pass {c : TM} {r b : SM} {e : Env} (h : c e = .ok false) : seq (Py.ite c b skip) r e = r e := by
  refine seq_next ?_
  unfold Py.ite
  rw [h, bind_ok]
  rfl
theorem asg_pass {i : Nat} {m : EM} {r : SM} {e : Env} {d : D} (h : m e = .ok d) : seq (asg (gnm i) m) r e = r (e.set i (some d)) := by
  refine seq_next ?_
  rw [asg_eq, h]
  rfl
theorem for_pass {it : IM} {g : GM} {b r : SM} {e e' : Env} {xs : List D} (h : it e = .ok xs) (h2 : forL (forB g b) xs e = .ok (.next e')) : seq (for_ it g b) r e = r e' := by
  refine seq_next ?_
  rw [for_eq, h]
  exact h2
theorem ite_in {c : TM} {r b : SM} {e e' : Env} (h : c e = .ok true) (h2 : b e = .ok (.next e')) : seq (Py.ite c b skip) r e = r e' := by
  refine seq_next ?_
  unfold Py.ite
  rw [h, bind_ok]
  exact h2
/-! ### deeds drawn -/
theorem line_ok {r : List Nat} {L B : Nat} (hl : r.length = L) (hb : ∀ x ∈ r, x < B) (hz : L ≤ 1000) : m_is_line [rD r, nD L, nD B] = .ok (.bl true) := by
  have h1 : oisi CS [.tup] (rD r) = .ok (.bl true) := rfl
  have h2 : blen (rD r) = .ok (nD L) := by
    unfold rD
    rw [blen_t, List.length_map, hl]
    rfl
  have h3 : Py.one (nD L) (nD L) = .ok (.bl false) := by
    unfold nD
    rw [one_ii]
    simp
  have hc : lcE (iseq (var 0)) [3] (gnm 3) yes (call m_is_below (argC (var 3) (argC (var 2) argN))) [some (rD r), some (nD L), some (nD B), none] = .ok (.lst (r.map fun _ => .bl true)) := by
    refine lc_mapI (k := nD) (by simp [var, rD]) (by rw [hl]; exact le_sz hz) fun a ha => ?_
    have q := is_below_ok a B
    rw [decide_eq_true (hb a ha)] at q
    generalize nD a = A at *
    generalize nD B = N at *
    exact ⟨_, rfl, by simp only [wipe]; simp [var, q]⟩
  have hb2 : ball (.lst (r.map fun _ => .bl true)) = .ok (.bl true) := by
    have := ball_bools (r.map fun _ => true)
    rw [List.map_map] at this
    refine this.trans ?_
    rw [show (r.map fun _ => true).all id = true by simp]
  unfold m_is_line
  rw [fn3]
  unfold b_is_line
  generalize D.lst (r.map fun _ => .bl true) = Z at *
  generalize rD r = R at *
  generalize nD L = l at *
  generalize nD B = b at *
  simp [var, h1, h2, h3, hc, hb2]
theorem as_tup (ds : List D) : m_as_tuple [.lst ds] = .ok (.tup ds) := by
  have h : oisi CS [.lst, .tup] (.lst ds) = .ok (.bl true) := rfl
  unfold m_as_tuple
  rw [fn1]
  unfold b_as_tuple
  simp [var, h]
theorem nexts_ok {S L : Nat} {nx : List (List Nat)} (h : Tbl S L S nx) (hS : 0 < S) (hz : S ≤ 1000) (hL : L ≤ 1000) : m_right_nexts [.lst (nx.map rD), nD L] = .ok (.tup (nx.map rD)) := by
  have q1 := as_tup (nx.map rD)
  have q2 : truthy (.tup (nx.map rD)) = .ok true := by
    cases hx : nx with
    | nil =>
      have := h.len
      rw [hx] at this
      simp at this
      omega
    | cons a b => simp [truthy]
  have q3 : blen (.tup (nx.map rD)) = .ok (nD S) := by
    rw [blen_t, List.length_map, h.len]
    rfl
  have loop : ∃ e', forL (forB (gtup [(gnm 3), (gnm 4)]) (Py.ite (notT (tst (call m_is_line (argC (var 4) (argC (var 1) (argC (un blen (var 2)) argN)))))) (rais "InvalidMachine" ["part", "place"] (argC (cst (.str "nexts")) (argC (var 3) argN))) skip)) (enumL 0 (nx.map rD)) [some (.lst (nx.map rD)), some (nD L), some (.tup (nx.map rD)), none, none] = .ok (.next e') ∧ ∃ o3 o4, e' = [some (.lst (nx.map rD)), some (nD L), some (.tup (nx.map rD)), o3, o4] := by
    refine forL_inv (fun k e => ∃ o3 o4, e = [some (.lst (nx.map rD)), some (nD L), some (.tup (nx.map rD)), o3, o4]) 0 ⟨none, none, rfl⟩ ?_
    rintro k e hk ⟨o3, o4, rfl⟩
    have hk2 : k < nx.length := by
      rw [enum_len, List.length_map] at hk
      exact hk
    obtain ⟨h1, h2⟩ := h.row nx[k] (List.getElem_mem hk2)
    have q := line_ok h1 h2 hL
    rw [enum_at hk (by simpa using hk2), List.getElem_map, Nat.zero_add]
    generalize (k : Int) = z at *
    generalize rD nx[k] = R at *
    generalize nx.map rD = NX at *
    generalize nD L = l at *
    generalize nD S = s at *
    exact ⟨[some (.lst NX), some l, some (.tup NX), some (.int z), some R], by simp [var, gtup, gtupL, q, q3], _, _, rfl⟩
  obtain ⟨e', q4, o3, o4, rfl⟩ := loop
  have q5 : ienum (var 2) [some (.lst (nx.map rD)), some (nD L), some (.tup (nx.map rD)), none, none] = .ok (enumL 0 (nx.map rD)) := rfl
  unfold m_right_nexts
  rw [fn2]
  unfold b_right_nexts
  generalize hNX : nx.map rD = NX at *
  generalize nD L = l at *
  generalize enumL 0 NX = E at *
  simp [var, q1, q2, q4, q5]
theorem outs_ok {S L : Nat} {os : List (List Nat)} (h : Tbl S L 2 os) (hz : S ≤ 1000) (hL : L ≤ 1000) : m_right_outs [.lst (os.map rD), nD L, nD S] = .ok (.tup (os.map rD)) := by
  have q1 := as_tup (os.map rD)
  have q2 : oisN (.tup (os.map rD)) = .ok (.bl false) := rfl
  have q3 : blen (.tup (os.map rD)) = .ok (nD S) := by
    rw [blen_t, List.length_map, h.len]
    rfl
  have q4 : bmin2 (nD S) (nD S) = .ok (nD S) := by
    unfold nD bmin2
    simp
  have q5 : Py.one (nD S) (nD S) = .ok (.bl false) := by
    unfold nD
    rw [one_ii]
    simp
  have loop : ∃ e', forL (forB (gnm 5) (Py.ite (notT (tst (call m_is_line (argC (bin oidx (var 3) (var 5)) (argC (var 1) (argC (cst (.int 2)) argN)))))) (rais "InvalidMachine" ["part", "place"] (argC (cst (.str "outs")) (argC (var 5) argN))) skip)) ((List.range S).map fun i => .int ((i : Nat) : Int)) [some (.lst (os.map rD)), some (nD L), some (nD S), some (.tup (os.map rD)), some (nD S), none] = .ok (.next e') ∧ ∃ o5, e' = [some (.lst (os.map rD)), some (nD L), some (nD S), some (.tup (os.map rD)), some (nD S), o5] := by
    refine forR_inv (fun k e => ∃ o5, e = [some (.lst (os.map rD)), some (nD L), some (nD S), some (.tup (os.map rD)), some (nD S), o5]) ⟨none, rfl⟩ ?_
    rintro k e hk ⟨o5, rfl⟩
    have hk2 : k < os.length := by rw [h.len]; exact hk
    obtain ⟨h1, h2⟩ := h.row os[k] (List.getElem_mem hk2)
    have q := line_ok h1 h2 hL
    have q0 : oidx (.tup (os.map rD)) (.int (k : Int)) = .ok (rD os[k]) := oidx_t (k := k) (by simp [hk2])
    change m_is_line [_, _, .int 2] = _ at q
    generalize (k : Int) = z at *
    generalize rD os[k] = R at *
    generalize os.map rD = OS at *
    generalize nD L = l at *
    generalize nD S = s at *
    exact ⟨[some (.lst OS), some l, some s, some (.tup OS), some s, some (.int z)], by simp [var, q, q0], _, rfl⟩
  obtain ⟨e', q6, o5, rfl⟩ := loop
  have hr : irng1 (var 4) [some (.lst (os.map rD)), some (nD L), some (nD S), some (.tup (os.map rD)), some (nD S), none] = .ok ((List.range S).map fun i => .int ((i : Nat) : Int)) := irng1_nat (by simp [var, nD]) (rng_lt hz)
  unfold m_right_outs
  rw [fn3]
  unfold b_right_outs
  generalize hOS : os.map rD = OS at *
  generalize nD L = l at *
  generalize nD S = s at *
  simp [var, q1, q2, q3, q4, q5, q6, hr]
theorem mach_made {n S : Nat} {nx os : List (List Nat)} (h1 : 1 ≤ n) (h3 : n ≤ 3) (hn : Tbl S (2 ^ n) S nx) (ho : Tbl S (2 ^ n) 2 os) (hS : 0 < S) (hz : S ≤ 1000) : m_Machine [nD n, .lst (nx.map rD), .lst (os.map rD)] = .ok (macD n nx os) := by
  have hP : 2 ^ n ≤ 8 := by
    have : n = 1 ∨ n = 2 ∨ n = 3 := by omega
    rcases this with rfl | rfl | rfl <;> decide
  have q1 := inputs_ok h1 h3
  have q2 := shl_nD (n := n) (by omega)
  have q3 := nexts_ok hn hS hz (by omega)
  have q4 := outs_ok ho hz (by omega)
  have q5 : blen (.tup (nx.map rD)) = .ok (nD S) := by
    rw [blen_t, List.length_map, hn.len]
    rfl
  have q6 : oattr ["Machine"] "nexts" (.ins "Machine" [("inputs", nD n), ("nexts", .tup (nx.map rD))]) = .ok (.tup (nx.map rD)) := rfl
  have key : b_Machine_init [some (.ins "Machine" []), some (nD n), some (.lst (nx.map rD)), some (.lst (os.map rD)), none] = .ok (.next [some (macD n nx os), some (nD n), some (.lst (nx.map rD)), some (.lst (os.map rD)), some (nD (2 ^ n))]) := by
    unfold b_Machine_init macD
    generalize nx.map rD = NX at *
    generalize os.map rD = OS at *
    generalize nD (2 ^ n) = P at *
    generalize nD n = N at *
    generalize nD S = s at *
    simp [var, q1, q2, q3, q4, q5, q6, setF, putF]
  exact made_eq rfl key
theorem mac_in (n : Nat) (nx os : List (List Nat)) : oattr ["Row", "Machine"] "inputs" (macD n nx os) = .ok (nD n) := rfl
/-! ### the least machine by the program -/
theorem pow3 {n : Nat} (h1 : 1 ≤ n) (h3 : n ≤ 3) : 2 ^ n ≤ 8 := by
  have : n = 1 ∨ n = 2 ∨ n = 3 := by omega
  rcases this with rfl | rfl | rfl <;> decide
theorem least_ok {n S : Nat} {nx os : List (List Nat)} (h1 : 1 ≤ n) (h3 : n ≤ 3) (h : Tbl S (2 ^ n) S nx) (ho : Tbl S (2 ^ n) 2 os) (h0 : 0 < S) (hz : S ≤ 999) : m_least_machine [macD n nx os] = .ok (macD n (lsN nx os) (lsO nx os)) := by
  have p8 := pow3 h1 h3
  have e1 : m_state_classes [macD n nx os] = .ok (.lst ((clsM nx os).map nD)) := scF_ok h ho.len h0 (by omega) (by omega)
  obtain ⟨c1, c2⟩ := clsM_lt h ho.len h0
  obtain ⟨g1, g2, g3, r, g4⟩ := fndM_ok h ho.len h0
  obtain ⟨o5, o6, q⟩ := lm_loop h hz (by omega) c1 c2 (n := n) (os := os) S FUEL [0] 0 none none (fnd_0 h0) cld_0 (by simp) (by omega) (Nat.lt_of_le_of_lt hz (by decide))
  have eb : bfsL (at1 (clsM nx os)) nx S [0] 0 = fndM nx os := by unfold fndM; rw [h.len]
  rw [eb] at q
  have ix0 : oidx (.lst ((clsM nx os).map nD)) (.int 0) = .ok (nD (at1 (clsM nx os) 0)) := idx_nL (i := 0) (by omega)
  have d1 : dic1 false (bin oidx (var 1) (cst (.int 0))) (cst (.int 0)) [some (macD n nx os), some (.lst ((clsM nx os).map nD)), some (.lst ([0].map nD)), none, none, none, none, none] = .ok (dicC (at1 (clsM nx os)) [0]) := dic1_eq (by
    show (oidx (.lst ((clsM nx os).map nD)) (.int 0)) = _
    exact ix0) rfl (key_nD.ok _)
  have lo : lcE (iseq (var 2)) [7] (gnm 7) yes (bin oidx (un (oattr ["Machine"] "outs") (var 0)) (var 7)) [some (macD n nx os), some (.lst ((clsM nx os).map nD)), some (.lst ((fndM nx os).map nD)), some (dicC (at1 (clsM nx os)) (fndM nx os)), some (.lst (((fndM nx os).map (rowN (at1 (clsM nx os)) nx (fndM nx os))).map rD)), o5, o6, none] = .ok (.lst ((lsO nx os).map rD)) := by
    have hO : (lsO nx os).map rD = (fndM nx os).map fun s => rD (rw1 os s) := by
      unfold lsO
      rw [List.map_map]
      rfl
    rw [hO]
    refine lc_mapI (k := nD) (ys := fndM nx os) rfl (le_sz (by omega)) fun y hy => ⟨_, rfl, ?_⟩
    have q := idx_tT ho (g1.lt y hy)
    have i3 := mac_os n nx os
    show _ = Res.ok (rD (rw1 os y))
    generalize rD (rw1 os y) = R at *
    generalize macD n nx os = M at *
    generalize os.map rD = OS at *
    generalize nD y = Y at *
    simp only [wipe]
    simp [var, q, i3]
  have mm := mach_made h1 h3 (lsN_tbl h ho.len h0) (lsO_tbl h ho h0) (by rw [g4]; simp) (by omega)
  have mi := mac_in n nx os
  unfold m_least_machine
  rw [fn1]
  unfold b_least_machine
  refine (congrArg done ((asg_pass (d := .lst ((clsM nx os).map nD)) ?_).trans ?_)).trans (done_ret _)
  · generalize macD n nx os = M at *
    simp [var, e1]
  refine (asg_pass (d := .lst ([0].map nD)) (by simp; rfl)).trans ?_
  refine (asg_pass d1).trans ?_
  refine (asg_pass (d := .lst []) (by simp)).trans ?_
  refine (seq_next (e' := [some (macD n nx os), some (.lst ((clsM nx os).map nD)), some (.lst ((fndM nx os).map nD)), some (dicC (at1 (clsM nx os)) (fndM nx os)), some (.lst (((fndM nx os).map (rowN (at1 (clsM nx os)) nx (fndM nx os))).map rD)), o5, o6, none]) q).trans ?_
  rw [ret_eq, call_eq, argC_eq, argC_eq, argC_eq, lo]
  change m_Machine [nD n, .lst (((fndM nx os).map (rowN (at1 (clsM nx os)) nx (fndM nx os))).map rD), .lst ((lsO nx os).map rD)] = _ at mm
  generalize macD n (lsN nx os) (lsO nx os) = RES at *
  generalize macD n nx os = M at *
  generalize ((fndM nx os).map (rowN (at1 (clsM nx os)) nx (fndM nx os))).map rD = R1 at *
  generalize (lsO nx os).map rD = R2 at *
  simp [var, mi, mm]
theorem setL_ok {i : Nat} {j m : EM} {e : Env} {xs : List D} {d : D} {k : Nat} (h1 : var i e = .ok (.lst xs)) (h2 : m e = .ok d) (h3 : j e = .ok (.int (k : Int))) (hk : k < xs.length) : setL i j m e = .ok (.next (e.set i (some (.lst (xs.set k d))))) := by
  unfold setL
  rw [h1, bind_ok]
  dsimp only
  rw [h2, bind_ok, h3, bind_ok]
  dsimp only
  have := ixN_nat hk
  show (match L2.ixN xs.length (k : Int) with | some n => Res.ok (Fl.next (e.set i (some (.lst (xs.set n d))))) | none => Res.stuck) = _
  rw [this]
theorem as_tup_t (ds : List D) : m_as_tuple [.tup ds] = .ok (.tup ds) := by
  have h : oisi CS [.lst, .tup] (.tup ds) = .ok (.bl true) := rfl
  unfold m_as_tuple
  rw [fn1]
  unfold b_as_tuple
  simp [var, h]
theorem outs_ok_t {S L : Nat} {os : List (List Nat)} (h : Tbl S L 2 os) (hz : S ≤ 1000) (hL : L ≤ 1000) : m_right_outs [.tup (os.map rD), nD L, nD S] = .ok (.tup (os.map rD)) := by
  have q1 := as_tup_t (os.map rD)
  have q2 : oisN (.tup (os.map rD)) = .ok (.bl false) := rfl
  have q3 : blen (.tup (os.map rD)) = .ok (nD S) := by
    rw [blen_t, List.length_map, h.len]
    rfl
  have q4 : bmin2 (nD S) (nD S) = .ok (nD S) := by
    unfold nD bmin2
    simp
  have q5 : Py.one (nD S) (nD S) = .ok (.bl false) := by
    unfold nD
    rw [one_ii]
    simp
  have loop : ∃ e', forL (forB (gnm 5) (Py.ite (notT (tst (call m_is_line (argC (bin oidx (var 3) (var 5)) (argC (var 1) (argC (cst (.int 2)) argN)))))) (rais "InvalidMachine" ["part", "place"] (argC (cst (.str "outs")) (argC (var 5) argN))) skip)) ((List.range S).map fun i => .int ((i : Nat) : Int)) [some (.tup (os.map rD)), some (nD L), some (nD S), some (.tup (os.map rD)), some (nD S), none] = .ok (.next e') ∧ ∃ o5, e' = [some (.tup (os.map rD)), some (nD L), some (nD S), some (.tup (os.map rD)), some (nD S), o5] := by
    refine forR_inv (fun k e => ∃ o5, e = [some (.tup (os.map rD)), some (nD L), some (nD S), some (.tup (os.map rD)), some (nD S), o5]) ⟨none, rfl⟩ ?_
    rintro k e hk ⟨o5, rfl⟩
    have hk2 : k < os.length := by rw [h.len]; exact hk
    obtain ⟨h1, h2⟩ := h.row os[k] (List.getElem_mem hk2)
    have q := line_ok h1 h2 hL
    have q0 : oidx (.tup (os.map rD)) (.int (k : Int)) = .ok (rD os[k]) := oidx_t (k := k) (by simp [hk2])
    change m_is_line [_, _, .int 2] = _ at q
    generalize (k : Int) = z at *
    generalize rD os[k] = R at *
    generalize os.map rD = OS at *
    generalize nD L = l at *
    generalize nD S = s at *
    exact ⟨[some (.tup OS), some l, some s, some (.tup OS), some s, some (.int z)], by simp [var, q, q0], _, rfl⟩
  obtain ⟨e', q6, o5, rfl⟩ := loop
  have hr : irng1 (var 4) [some (.tup (os.map rD)), some (nD L), some (nD S), some (.tup (os.map rD)), some (nD S), none] = .ok ((List.range S).map fun i => .int ((i : Nat) : Int)) := irng1_nat (by simp [var, nD]) (rng_lt hz)
  unfold m_right_outs
  rw [fn3]
  unfold b_right_outs
  generalize hOS : os.map rD = OS at *
  generalize nD L = l at *
  generalize nD S = s at *
  simp [var, q1, q2, q3, q4, q5, q6, hr]
theorem mach_made_t {n S : Nat} {nx os : List (List Nat)} (h1 : 1 ≤ n) (h3 : n ≤ 3) (hn : Tbl S (2 ^ n) S nx) (ho : Tbl S (2 ^ n) 2 os) (hS : 0 < S) (hz : S ≤ 1000) : m_Machine [nD n, .lst (nx.map rD), .tup (os.map rD)] = .ok (macD n nx os) := by
  have hP : 2 ^ n ≤ 8 := by
    have : n = 1 ∨ n = 2 ∨ n = 3 := by omega
    rcases this with rfl | rfl | rfl <;> decide
  have q1 := inputs_ok h1 h3
  have q2 := shl_nD (n := n) (by omega)
  have q3 := nexts_ok hn hS hz (by omega)
  have q4 := outs_ok_t ho hz (by omega)
  have q5 : blen (.tup (nx.map rD)) = .ok (nD S) := by
    rw [blen_t, List.length_map, hn.len]
    rfl
  have q6 : oattr ["Machine"] "nexts" (.ins "Machine" [("inputs", nD n), ("nexts", .tup (nx.map rD))]) = .ok (.tup (nx.map rD)) := rfl
  have key : b_Machine_init [some (.ins "Machine" []), some (nD n), some (.lst (nx.map rD)), some (.tup (os.map rD)), none] = .ok (.next [some (macD n nx os), some (nD n), some (.lst (nx.map rD)), some (.tup (os.map rD)), some (nD (2 ^ n))]) := by
    unfold b_Machine_init macD
    generalize nx.map rD = NX at *
    generalize os.map rD = OS at *
    generalize nD (2 ^ n) = P at *
    generalize nD n = N at *
    generalize nD S = s at *
    simp [var, q1, q2, q3, q4, q5, q6, setF, putF]
  exact made_eq rfl key
end Py.U
namespace Py.U
open PySem
/-! ### deeds -/
inductive Deed where
  | zero | ones | inv (a : Nat) | and (a b : Nat) | or (a b : Nat) | xor (a b : Nat)
  | shift (a : Nat) | minus (a : Nat) | add (a b : Nat) | sub (a b : Nat) | count (p r : Nat) (ps : List Nat)
  deriving DecidableEq
def Deed.d : Deed → D
  | .zero => .tup [.str "zero"]
  | .ones => .tup [.str "ones"]
  | .inv a => .tup [.str "not", nD a]
  | .and a b => .tup [.str "and", nD a, nD b]
  | .or a b => .tup [.str "or", nD a, nD b]
  | .xor a b => .tup [.str "xor", nD a, nD b]
  | .shift a => .tup [.str "shift", nD a]
  | .minus a => .tup [.str "minus", nD a]
  | .add a b => .tup [.str "add", nD a, nD b]
  | .sub a b => .tup [.str "sub", nD a, nD b]
  | .count p r ps => .tup [.str "count", nD p, nD r, .tup (ps.map nD)]
/-- its values stand ahead of n -/
def Deed.ok (n : Nat) : Deed → Prop
  | .zero => True
  | .ones => True
  | .inv a => a < n
  | .and a b => a < n ∧ b < n
  | .or a b => a < n ∧ b < n
  | .xor a b => a < n ∧ b < n
  | .shift a => a < n
  | .minus a => a < n
  | .add a b => a < n ∧ b < n
  | .sub a b => a < n ∧ b < n
  | .count p r ps => (p = 2 ∨ p = 3 ∨ p = 5) ∧ r < p ∧ 1 ≤ ps.length ∧ ps.length ≤ 4 ∧ ∀ a ∈ ps, a < n
/-! ### what deeds do, bit by bit -/
def at0 (bs : List Nat) (a : Nat) : Nat := bs.getD a 0
def tot (bs : List Nat) (ps : List Nat) : Nat := (ps.map (at0 bs)).sum
def Deed.marked : Deed → Bool
  | .shift _ => true
  | .minus _ => true
  | .add _ _ => true
  | .sub _ _ => true
  | .count _ _ _ => true
  | _ => false
def Deed.top : Deed → Nat
  | .count p _ _ => p
  | _ => 2
/-- the bit of a deed without a mark -/
def Deed.bit0 (bs : List Nat) : Deed → Nat
  | .ones => 1
  | .inv a => 1 - at0 bs a
  | .and a b => if at0 bs a + at0 bs b = 2 then 1 else 0
  | .or a b => if 0 < at0 bs a + at0 bs b then 1 else 0
  | .xor a b => if at0 bs a = at0 bs b then 0 else 1
  | _ => 0
/-- the bit and the next mark of a deed with a mark -/
def Deed.bit1 (bs : List Nat) (m : Nat) : Deed → Nat
  | .shift _ => m
  | .minus a => (at0 bs a + m) % 2
  | .add a b => (at0 bs a + at0 bs b + m) % 2
  | .sub a b => (at0 bs a + at0 bs b + m) % 2
  | .count _ r _ => if m = r then 1 else 0
  | _ => 0
def Deed.next (bs : List Nat) (m : Nat) : Deed → Nat
  | .shift a => at0 bs a
  | .minus a => if 1 ≤ at0 bs a + m then 1 else 0
  | .add a b => if 2 ≤ at0 bs a + at0 bs b + m then 1 else 0
  | .sub a b => if at0 bs a < at0 bs b + m then 1 else 0
  | .count p _ ps => (m + tot bs ps) % p
  | _ => 0
def Bits (bs : List Nat) : Prop := ∀ b ∈ bs, b = 0 ∨ b = 1
theorem at0_01 {bs : List Nat} (h : Bits bs) (a : Nat) : at0 bs a = 0 ∨ at0 bs a = 1 := by
  unfold at0
  by_cases q : a < bs.length
  · simp only [List.getD_eq_getElem?_getD, List.getElem?_eq_getElem q, Option.getD_some]
    exact h _ (List.getElem_mem q)
  · rw [List.getD_eq_getElem?_getD, List.getElem?_eq_none (by omega)]
    exact .inl rfl
theorem bits_at {bs : List Nat} {a : Nat} (h : a < bs.length) : oidx (.lst (bs.map nD)) (nD a) = .ok (nD (at0 bs a)) := by
  refine oidx_l (k := a) ?_
  unfold at0
  simp [h]
/-! the law's own bit -/
theorem ixt1 {a b : D} {r : List D} : oidx (.tup (a :: b :: r)) (.int 1) = .ok b := oidx_t (k := 1) rfl
theorem ixt0 {a : D} {r : List D} : oidx (.tup (a :: r)) (.int 0) = .ok a := oidx_t (k := 0) rfl
/-! ### all deeds of a row, at one place -/
abbrev St := List Nat × List Nat
def stp (ms : List Nat) (s : St) (x : Deed) : St :=
  if x.marked then (s.1 ++ [x.bit1 s.1 (ms.getD s.2.length 0)], s.2 ++ [x.next s.1 (ms.getD s.2.length 0)]) else (s.1 ++ [x.bit0 s.1], s.2)
def runD (ms bs : List Nat) (xs : List Deed) : St := xs.foldl (stp ms) (bs, [])
def tops (xs : List Deed) : List Nat := (xs.filter Deed.marked).map Deed.top
/-- marks below their numbers -/
def Fit : List Nat → List Nat → Prop
  | [], [] => True
  | m :: ms, t :: ts => m < t ∧ Fit ms ts
  | _, _ => False
theorem Fit.len : ∀ {ms ts : List Nat}, Fit ms ts → ms.length = ts.length
  | [], [], _ => rfl
  | m :: ms, t :: ts, h => congrArg (· + 1) (Fit.len h.2)
  | [], _ :: _, h => h.elim
  | _ :: _, [], h => h.elim
theorem Fit.at : ∀ {ms ts : List Nat} {j t : Nat}, Fit ms ts → ts[j]? = some t → ms.getD j 0 < t
  | [], [], _, _, _, h => by simp at h
  | m :: ms, t :: ts, 0, _, h, e => by
    simp at e
    subst e
    exact h.1
  | m :: ms, t :: ts, j + 1, _, h, e => by
    simp at e
    simpa using Fit.at (j := j) h.2 e
  | [], _ :: _, _, _, h, _ => h.elim
  | _ :: _, [], _, _, h, _ => h.elim
theorem Fit.snoc : ∀ {ms ts : List Nat} {m t : Nat}, Fit ms ts → m < t → Fit (ms ++ [m]) (ts ++ [t])
  | [], [], _, _, _, h => ⟨h, trivial⟩
  | m :: ms, t :: ts, _, _, h, h2 => ⟨h.1, Fit.snoc h.2 h2⟩
  | [], _ :: _, _, _, h, _ => h.elim
  | _ :: _, [], _, _, h, _ => h.elim
/-- the deeds' values stand ahead -/
def Row (n : Nat) (xs : List Deed) : Prop := ∀ k, (h : k < xs.length) → xs[k].ok (n + k)
theorem next_lt {bs : List Nat} (hb : Bits bs) {x : Deed} (hm : x.marked = true) {n : Nat} (hx : x.ok n) (m : Nat) : x.next bs m < x.top := by
  cases x with
  | shift a =>
    show at0 bs a < 2
    rcases at0_01 hb a with e | e <;> omega
  | minus a =>
    show (if 1 ≤ at0 bs a + m then 1 else 0) < 2
    split <;> omega
  | add a b =>
    show (if 2 ≤ at0 bs a + at0 bs b + m then 1 else 0) < 2
    split <;> omega
  | sub a b =>
    show (if at0 bs a < at0 bs b + m then 1 else 0) < 2
    split <;> omega
  | count p r ps =>
    obtain ⟨hp, hr, _⟩ := hx
    exact Nat.mod_lt _ (by omega)
  | _ => cases hm
theorem if01 {c : Prop} [Decidable c] : (if c then 1 else 0 : Nat) = 0 ∨ (if c then 1 else 0 : Nat) = 1 := by split <;> simp
theorem if01' {c : Prop} [Decidable c] : (if c then 0 else 1 : Nat) = 0 ∨ (if c then 0 else 1 : Nat) = 1 := by split <;> simp
theorem mod01 (a : Nat) : a % 2 = 0 ∨ a % 2 = 1 := by omega
theorem bit0_01 {bs : List Nat} (hb : Bits bs) (x : Deed) : x.bit0 bs = 0 ∨ x.bit0 bs = 1 := by
  cases x with
  | ones => exact .inr rfl
  | inv a =>
    show 1 - at0 bs a = 0 ∨ 1 - at0 bs a = 1
    omega
  | and a b => exact if01
  | or a b => exact if01
  | xor a b => exact if01'
  | _ => exact .inl rfl
theorem bit1_01 {bs : List Nat} (hb : Bits bs) (x : Deed) {m : Nat} (hm : m < x.top) : x.bit1 bs m = 0 ∨ x.bit1 bs m = 1 := by
  cases x with
  | shift a =>
    have h : m < 2 := hm
    show m = 0 ∨ m = 1
    omega
  | minus a => exact mod01 _
  | add a b => exact mod01 _
  | sub a b => exact mod01 _
  | count p r ps => exact if01
  | _ => exact .inl rfl
/-- where one stands behind k deeds -/
structure At (n : Nat) (ms : List Nat) (xs : List Deed) (k : Nat) (s : St) : Prop where
  bits : Bits s.1
  len : s.1.length = n + k
  fit : Fit s.2 (tops (xs.take k))
  eq : s = (xs.take k).foldl (stp ms) (s.1.take n, [])
theorem tops_snoc (xs : List Deed) (x : Deed) : tops (xs ++ [x]) = if x.marked then tops xs ++ [x.top] else tops xs := by
  unfold tops
  rw [List.filter_append, List.map_append]
  cases h : x.marked <;> simp [h]
theorem tops_at {xs : List Deed} {k : Nat} (h : k < xs.length) (hm : xs[k].marked = true) : (tops xs)[(tops (xs.take k)).length]? = some xs[k].top := by
  have e : xs = xs.take k ++ (xs[k] :: xs.drop (k + 1)) := by
    rw [← List.drop_eq_getElem_cons h, List.take_append_drop]
  have e2 : tops xs = tops (xs.take k) ++ (xs[k].top :: tops (xs.drop (k + 1))) := by
    unfold tops
    conv => lhs; rw [e]
    rw [List.filter_append, List.map_append, List.filter_cons, hm]
    rfl
  rw [e2, List.getElem?_append_right (Nat.le_refl _), Nat.sub_self]
  rfl
theorem At.step {n : Nat} {ms : List Nat} {xs : List Deed} {k : Nat} {s : St} (A : At n ms xs k s) (hf : Fit ms (tops xs)) (hr : Row n xs) (hk : k < xs.length) : At n ms xs (k + 1) (stp ms s xs[k]) := by
  have ht : xs.take (k + 1) = xs.take k ++ [xs[k]] := by
    rw [List.take_add_one]
    simp [hk]
  have hl := A.fit.len
  have hx := hr k hk
  rw [← A.len] at hx
  cases hm : xs[k].marked with
  | true =>
    have hlt : ms.getD s.2.length 0 < xs[k].top := by
      rw [hl]
      exact hf.at (tops_at hk hm)
    have e : stp ms s xs[k] = (s.1 ++ [xs[k].bit1 s.1 (ms.getD s.2.length 0)], s.2 ++ [xs[k].next s.1 (ms.getD s.2.length 0)]) := by
      unfold stp
      rw [hm]
      rfl
    refine ⟨?_, ?_, ?_, ?_⟩
    · rw [e]
      intro b hb
      rcases List.mem_append.mp hb with hb | hb
      · exact A.bits b hb
      · rw [List.mem_singleton.mp hb]
        exact bit1_01 A.bits _ hlt
    · rw [e]
      simp [A.len]
      omega
    · rw [e, ht, tops_snoc, hm]
      exact A.fit.snoc (next_lt A.bits hm hx _)
    · have e2 : (stp ms s xs[k]).1.take n = s.1.take n := by
        rw [e]
        exact List.take_append_of_le_length (by rw [A.len]; omega)
      rw [e2, ht, List.foldl_append, ← A.eq]
      rfl
  | false =>
    have e : stp ms s xs[k] = (s.1 ++ [xs[k].bit0 s.1], s.2) := by
      unfold stp
      rw [hm]
      rfl
    refine ⟨?_, ?_, ?_, ?_⟩
    · rw [e]
      intro b hb
      rcases List.mem_append.mp hb with hb | hb
      · exact A.bits b hb
      · rw [List.mem_singleton.mp hb]
        exact bit0_01 A.bits _
    · rw [e]
      simp [A.len]
      omega
    · rw [e, ht, tops_snoc, hm]
      exact A.fit
    · have e2 : (stp ms s xs[k]).1.take n = s.1.take n := by
        rw [e]
        exact List.take_append_of_le_length (by rw [A.len]; omega)
      rw [e2, ht, List.foldl_append, ← A.eq]
      rfl
def Deed.name : Deed → String
  | .zero => "zero"
  | .ones => "ones"
  | .inv _ => "not"
  | .and _ _ => "and"
  | .or _ _ => "or"
  | .xor _ _ => "xor"
  | .shift _ => "shift"
  | .minus _ => "minus"
  | .add _ _ => "add"
  | .sub _ _ => "sub"
  | .count _ _ _ => "count"
theorem deed_name (x : Deed) : oidx x.d (.int 0) = .ok (.str x.name) := by cases x <;> exact ixt0
/-- the bits of a letter -/
def lb (n letter : Nat) : List Nat := (List.range n).map fun k => letter / 2 ^ k % 2
theorem lb_bits (n letter : Nat) : Bits (lb n letter) := fun b hb => by
  obtain ⟨k, _, rfl⟩ := List.mem_map.mp hb
  omega
theorem lb_len (n letter : Nat) : (lb n letter).length = n := by simp [lb]
theorem bitN (l k : Nat) : (oshr (nD l) (nD k) >>= fun x => oand x (.int 1)) = .ok (nD (l / 2 ^ k % 2)) := by
  unfold nD
  rw [oshr_nat, bind_ok, oand1]
  simp
theorem bitN2 (l : Nat) : oand (nD l) (.int 1) = .ok (nD (l % 2)) := by
  unfold nD
  rw [oand1]
  rfl
theorem At.all {n : Nat} {ms : List Nat} {xs : List Deed} {bs : List Nat} (hb : Bits bs) (hl : bs.length = n) (hf : Fit ms (tops xs)) (hr : Row n xs) : ∀ k, k ≤ xs.length → At n ms xs k ((xs.take k).foldl (stp ms) (bs, []))
  | 0, _ => ⟨hb, by simpa using hl, trivial, by simp [← hl]⟩
  | k + 1, h => by
    have A := At.all hb hl hf hr k (by omega)
    have hk : k < xs.length := h
    have ht : (xs.take (k + 1)).foldl (stp ms) (bs, []) = stp ms ((xs.take k).foldl (stp ms) (bs, [])) xs[k] := by
      rw [List.take_add_one, List.foldl_append]
      simp [hk]
    rw [ht]
    exact A.step hf hr hk
/-! ### the program's side: lanes of one place -/
def rowD (n : Nat) (xs : List Deed) (out : Nat) : D := .ins "Row" [("inputs", nD n), ("deeds", .tup (xs.map Deed.d)), ("out", nD out)]
theorem are_values_ok {W : D} {ps : List Nat} {k : Nat} (hW : iseq (var 0) [some W, some (nD k), none] = .ok (ps.map nD)) (hp : ∀ a ∈ ps, a < k) (hz : ps.length ≤ 1000) : m_are_values [W, nD k] = .ok (.bl true) := by
  have hc : lcE (iseq (var 0)) [2] (gnm 2) yes (call m_is_below (argC (var 2) (argC (var 1) argN))) [some W, some (nD k), none] = .ok (.lst (ps.map fun _ => .bl true)) := by
    refine lc_mapI (k := nD) hW (le_sz hz) fun a ha => ?_
    have q := is_below_ok a k
    rw [decide_eq_true (hp a ha)] at q
    generalize nD a = A at *
    generalize nD k = N at *
    exact ⟨_, rfl, by simp only [wipe]; simp [var, q]⟩
  have hb : ball (.lst (ps.map fun _ => .bl true)) = .ok (.bl true) := by
    have := ball_bools (ps.map fun _ => true)
    rw [List.map_map] at this
    refine this.trans ?_
    rw [show (ps.map fun _ => true).all id = true by simp]
  unfold m_are_values
  rw [fn2]
  unfold b_are_values
  generalize nD k = N at *
  generalize D.lst (ps.map fun _ => .bl true) = Z at *
  simp [var, hc, hb]
theorem values_t {ps : List Nat} {k : Nat} (hp : ∀ a ∈ ps, a < k) (hz : ps.length ≤ 1000) : m_are_values [.tup (ps.map nD), nD k] = .ok (.bl true) := are_values_ok (by simp [var]) hp hz
theorem count_deed_ok {p r k : Nat} {ps : List Nat} (hp : p = 2 ∨ p = 3 ∨ p = 5) (hr : r < p) (h1 : 1 ≤ ps.length) (h4 : ps.length ≤ 4) (ha : ∀ a ∈ ps, a < k) : m_is_count_deed [(Deed.count p r ps).d, nD k] = .ok (.bl true) := by
  have q1 := isint_ok p
  have q2 := is_below_ok r p
  rw [decide_eq_true hr] at q2
  have q3 := values_t ha (by omega)
  have q4 : onotin (nD p) (.tup [.int 2, .int 3, .int 5]) = .ok (.bl false) := by rcases hp with rfl | rfl | rfl <;> rfl
  have q5 : blen (Deed.count p r ps).d = .ok (.int 4) := rfl
  have q6 : oslc (Deed.count p r ps).d (some 1) none = .ok (.tup [nD p, nD r, .tup (ps.map nD)]) := rfl
  have q7 : oisi CS [.tup] (.tup (ps.map nD)) = .ok (.bl true) := rfl
  have q8 : blen (.tup (ps.map nD)) = .ok (.int ((ps.length : Nat) : Int)) := by simp
  have q9 : ole (.int 1) (.int ((ps.length : Nat) : Int)) = .ok (.bl true) := by rw [ole_ii, decide_eq_true (by omega)]
  have q10 : ole (.int ((ps.length : Nat) : Int)) (.int 4) = .ok (.bl true) := by rw [ole_ii, decide_eq_true (by omega)]
  unfold m_is_count_deed
  rw [fn2]
  unfold b_is_count_deed
  generalize (Deed.count p r ps).d = X at *
  generalize D.tup (ps.map nD) = T at *
  generalize ((ps.length : Nat) : Int) = Z at *
  generalize nD p = P' at *
  generalize nD r = R' at *
  generalize nD k = K' at *
  simp [var, gtup, gtupL, slc_eq, bnd_none, bnd_some, q1, q2, q3, q4, q5, q6, q7, q8, q9, q10]
theorem deed_plain {s : String} {vs : List Nat} {k : Nat} (hs : oeq (.str s) (.str "count") = .ok (.bl false)) (ht : onothas tab_SIZES (.str s) = .ok (.bl false)) (hl : olook tab_SIZES (.str s) = .ok (.int (vs.length : Int))) (ha : ∀ a ∈ vs, a < k) (hz : vs.length ≤ 1000) : m_is_deed [.tup (.str s :: vs.map nD), nD k] = .ok (.bl true) := by
  have q1 : oisi CS [.tup] (.tup (.str s :: vs.map nD)) = .ok (.bl true) := rfl
  have q2 : truthy (.tup (.str s :: vs.map nD)) = .ok true := by simp [truthy]
  have q3 : oidx (.tup (.str s :: vs.map nD)) (.int 0) = .ok (.str s) := oidx_t (k := 0) rfl
  have q4 : oisi CS [.str] (.str s) = .ok (.bl true) := rfl
  have q5 : blen (.tup (.str s :: vs.map nD)) = .ok (.int ((vs.length : Int) + 1)) := by simp
  have q6 : oslc (.tup (.str s :: vs.map nD)) (some 1) none = .ok (.tup (vs.map nD)) := by
    show Res.ok (D.tup (cut (.str s :: vs.map nD) (some 1) none)) = _
    have e : cut (D.str s :: vs.map nD) (some 1) none = vs.map nD := by
      unfold cut
      have e0 : HT.sIx (D.str s :: vs.map nD).length 0 (some 1) = 1 := by
        rw [show (1 : Int) = ((1 : Nat) : Int) from rfl, HT.sIx_nat]
        simp
      have e1 : HT.sIx (D.str s :: vs.map nD).length (D.str s :: vs.map nD).length none = (D.str s :: vs.map nD).length := rfl
      rw [e0, e1]
      have l : (vs.map nD).length = vs.length := List.length_map _
      simp only [List.drop_succ_cons, List.drop_zero, List.length_cons, Nat.add_sub_cancel]
      exact List.take_of_length_le (by omega)
    rw [e]
  have q7 := values_t ha hz
  unfold m_is_deed
  rw [fn2]
  unfold b_is_deed
  generalize D.tup (.str s :: vs.map nD) = X at *
  generalize D.tup (vs.map nD) = T at *
  generalize nD k = K' at *
  simp [var, slc_eq, bnd_none, bnd_some, q1, q2, q3, q4, q5, q6, q7, hs, ht, hl]
theorem deed_count {p r k : Nat} {ps : List Nat} (hp : p = 2 ∨ p = 3 ∨ p = 5) (hr : r < p) (h1 : 1 ≤ ps.length) (h4 : ps.length ≤ 4) (ha : ∀ a ∈ ps, a < k) : m_is_deed [(Deed.count p r ps).d, nD k] = .ok (.bl true) := by
  have q := count_deed_ok hp hr h1 h4 ha
  have q1 : oisi CS [.tup] (Deed.count p r ps).d = .ok (.bl true) := rfl
  have q2 : truthy (Deed.count p r ps).d = .ok true := rfl
  have q3 : oidx (Deed.count p r ps).d (.int 0) = .ok (.str "count") := rfl
  have q4 : oisi CS [.str] (.str "count") = .ok (.bl true) := rfl
  have q5 : oeq (.str "count") (.str "count") = .ok (.bl true) := rfl
  unfold m_is_deed
  rw [fn2]
  unfold b_is_deed
  generalize (Deed.count p r ps).d = X at *
  generalize nD k = K' at *
  simp [var, q, q1, q2, q3, q4, q5]
theorem is_deed_ok {k : Nat} {x : Deed} (h : x.ok k) : m_is_deed [x.d, nD k] = .ok (.bl true) := by
  cases x with
  | zero => exact deed_plain (s := "zero") (vs := []) rfl rfl rfl (by simp) (by simp)
  | ones => exact deed_plain (s := "ones") (vs := []) rfl rfl rfl (by simp) (by simp)
  | inv a => exact deed_plain (s := "not") (vs := [a]) rfl rfl rfl (by simpa [Deed.ok] using h) (by simp)
  | and a b => exact deed_plain (s := "and") (vs := [a, b]) rfl rfl rfl (by simpa [Deed.ok] using h) (by simp)
  | or a b => exact deed_plain (s := "or") (vs := [a, b]) rfl rfl rfl (by simpa [Deed.ok] using h) (by simp)
  | xor a b => exact deed_plain (s := "xor") (vs := [a, b]) rfl rfl rfl (by simpa [Deed.ok] using h) (by simp)
  | shift a => exact deed_plain (s := "shift") (vs := [a]) rfl rfl rfl (by simpa [Deed.ok] using h) (by simp)
  | minus a => exact deed_plain (s := "minus") (vs := [a]) rfl rfl rfl (by simpa [Deed.ok] using h) (by simp)
  | add a b => exact deed_plain (s := "add") (vs := [a, b]) rfl rfl rfl (by simpa [Deed.ok] using h) (by simp)
  | sub a b => exact deed_plain (s := "sub") (vs := [a, b]) rfl rfl rfl (by simpa [Deed.ok] using h) (by simp)
  | count p r ps => exact deed_count h.1 h.2.1 h.2.2.1 h.2.2.2.1 h.2.2.2.2
theorem row_loop {n : Nat} {xs : List Deed} (hr : Row n xs) {S I O T : D} (hI : I = nD n) : ∃ e', forL (forB (gtup [(gnm 5), (gnm 6)]) (Py.ite (notT (tst (call m_is_deed (argC (var 6) (argC (bin oadd (var 1) (var 5)) argN))))) (rais "InvalidRow" ["part", "place"] (argC (cst (.str "deeds")) (argC (var 5) argN))) skip)) (enumL 0 (xs.map Deed.d)) [some S, some I, some T, some O, some T, none, none] = .ok (.next e') ∧
    ∃ o5 o6, e' = [some S, some I, some T, some O, some T, o5, o6] := by
  refine forL_inv (fun k e => ∃ o5 o6, e = [some S, some I, some T, some O, some T, o5, o6]) 0 ⟨none, none, rfl⟩ ?_
  rintro k e hk ⟨o5, o6, rfl⟩
  have hk2 : k < xs.length := by
    rw [enum_len, List.length_map] at hk
    exact hk
  have q := is_deed_ok (hr k hk2)
  have q2 : oadd I (.int (k : Int)) = .ok (nD (n + k)) := by
    rw [hI]
    unfold nD
    rw [oadd_ii]
    simp
  rw [enum_at hk (by simpa using hk2), List.getElem_map, Nat.zero_add]
  generalize nD (n + k) = Z at *
  generalize hX : xs[k].d = X at *
  generalize (k : Int) = z at *
  exact ⟨[some S, some I, some T, some O, some T, some (.int z), some X], by simp [var, gtup, gtupL, q, q2], _, _, rfl⟩
theorem row_made {n out : Nat} {xs : List Deed} (h1 : 1 ≤ n) (h3 : n ≤ 3) (hr : Row n xs) (hz : xs.length ≤ 5000) (ho : out < n + xs.length) : m_Row [nD n, .tup (xs.map Deed.d), nD out] = .ok (rowD n xs out) := by
  have q1 := inputs_ok h1 h3
  have q2 : m_as_tuple [.tup (xs.map Deed.d)] = .ok (.tup (xs.map Deed.d)) := by
    have h : oisi CS [.lst, .tup] (.tup (xs.map Deed.d)) = .ok (.bl true) := rfl
    unfold m_as_tuple
    rw [fn1]
    unfold b_as_tuple
    generalize xs.map Deed.d = Z at *
    simp [var, h]
  have q3 : oisN (.tup (xs.map Deed.d)) = .ok (.bl false) := rfl
  obtain ⟨e', q4, o5, o6, rfl⟩ := row_loop (S := .ins "Row" []) (O := nD out) (T := .tup (xs.map Deed.d)) hr (I := nD n) rfl
  have q5 := is_below_ok out (n + xs.length)
  rw [decide_eq_true ho] at q5
  have q6 : oadd (nD n) (.int ((xs.map Deed.d).length : Int)) = .ok (nD (n + xs.length)) := by
    unfold nD
    rw [oadd_ii, List.length_map]
    simp
  have q7 : ienum (var 4) [some (.ins "Row" []), some (nD n), some (.tup (xs.map Deed.d)), some (nD out), some (.tup (xs.map Deed.d)), none, none] = .ok (enumL 0 (xs.map Deed.d)) := rfl
  have key : b_Row_init [some (.ins "Row" []), some (nD n), some (.tup (xs.map Deed.d)), some (nD out), none, none, none] = .ok (.next [some (rowD n xs out), some (nD n), some (.tup (xs.map Deed.d)), some (nD out), some (.tup (xs.map Deed.d)), o5, o6]) := by
    unfold b_Row_init rowD
    generalize xs.map Deed.d = Z at *
    generalize nD (n + xs.length) = M at *
    generalize nD n = N at *
    generalize nD out = U at *
    simp [var, q1, q2, q3, q4, q5, q6, q7, setF, putF]
  exact made_eq rfl key
theorem Row.snoc {n : Nat} {xs : List Deed} {x : Deed} (hr : Row n xs) (hx : x.ok (n + xs.length)) : Row n (xs ++ [x]) := fun k hk => by
  by_cases h : k < xs.length
  · rw [List.getElem_append_left h]
    exact hr k h
  · have e : k = xs.length := by
      simp at hk
      omega
    subst e
    simpa using hx
end Py.U
/-! States apart are apart by a word shorter than the number of states. -/
namespace Py.U
section
variable {S L : Nat} {nx os : List (List Nat)}
def Eqw (L : Nat) (nx os : List (List Nat)) (j s s' : Nat) : Prop := ∀ w : List Nat, w.length ≤ j → (∀ l ∈ w, l < L) → wr nx os s w = wr nx os s' w
theorem Eqw.mono {j j' s s' : Nat} (h : Eqw L nx os j s s') (hj : j' ≤ j) : Eqw L nx os j' s s' := fun w hw hl => h w (by omega) hl
theorem Eqw.goal {j s s' l : Nat} (h : Eqw L nx os (j + 1) s s') (hl : l < L) : Eqw L nx os j (at1 (rw1 nx s) l) (at1 (rw1 nx s') l) := fun w hw hw2 => by
  have q := h (l :: w) (by simp; omega) (fun x hx => by
    rcases List.mem_cons.mp hx with rfl | hx
    · exact hl
    · exact hw2 x hx)
  unfold wr at q
  exact (List.cons.inj q).2
theorem Eqw.bit {j s s' l : Nat} (h : Eqw L nx os (j + 1) s s') (hl : l < L) : at1 (rw1 os s) l = at1 (rw1 os s') l := by
  have q := h [l] (by simp) (fun x hx => by rw [List.mem_singleton.mp hx]; exact hl)
  unfold wr at q
  exact (List.cons.inj q).1
theorem row_eq {r r' : List Nat} (h1 : r.length = L) (h2 : r'.length = L) (h : ∀ l, l < L → at1 r l = at1 r' l) : r = r' := by
  have := row_ext (c := id) h1 h2 h
  simpa using this
theorem cls_words (h : Tbl S L S nx) (h0 : 0 < S) : ∀ (k j : Nat) (c : List Nat), Met S c → (∀ s s', s < S → s' < S → Eqw L nx os j s s' → at1 c s = at1 c s') →
    ∃ j', j' + mxN c ≤ j + mxN (clsL nx c k) ∧ ∀ s s', s < S → s' < S → Eqw L nx os j' s s' → at1 (clsL nx c k) s = at1 (clsL nx c k) s'
  | 0, j, c, hm, hc => ⟨j, Nat.le_refl _, hc⟩
  | k + 1, j, c, hm, hc => by
    rw [clsL]
    by_cases q : mxN (stepC nx c) = mxN c
    · rw [if_pos q]
      exact ⟨j, Nat.le_refl _, hc⟩
    · rw [if_neg q]
      have hlen := h.len
      obtain ⟨g1, g2⟩ := step_mx (nx := nx) (c := c) (by rw [hlen]; exact hm) (by omega)
      have hm2 := met_step (nx := nx) (c := c)
      rw [hlen] at hm2
      obtain ⟨j', e1, e2⟩ := cls_words h h0 k (j + 1) (stepC nx c) hm2 fun s s' hs hs' w => key_same h hs hs' (hc s s' hs hs' (w.mono (by omega))) fun l hl => hc _ _ ((h.at hs).2.2 _ (at1_mem (by have := (h.at hs).2.1; omega))) ((h.at hs').2.2 _ (at1_mem (by have := (h.at hs').2.1; omega))) (w.goal hl)
      exact ⟨j', by omega, e2⟩
theorem cls_wr {B : Nat} (h : Tbl S L S nx) (ho : Tbl S L B os) (h0 : 0 < S) : ∀ (w : List Nat), (∀ l ∈ w, l < L) → ∀ s s', s < S → s' < S → at1 (clsM nx os) s = at1 (clsM nx os) s' → wr nx os s w = wr nx os s' w
  | [], _, _, _, _, _, _ => rfl
  | l :: w, hl, s, s', hs, hs', e => by
    have hl0 := hl l List.mem_cons_self
    have er : RefO S os (clsM nx os) := refO_cls h _ _ (refO_numb ho.len)
    unfold wr
    rw [er _ _ hs hs' e, cls_wr h ho h0 w (fun x hx => hl x (List.mem_cons_of_mem _ hx)) _ _ ((h.at hs).2.2 _ (at1_mem (by have := (h.at hs).2.1; omega))) ((h.at hs').2.2 _ (at1_mem (by have := (h.at hs').2.1; omega))) (cls_goal h ho.len h0 hs hs' hl0 e)]
end
end Py.U
/-! A search by levels over pairs of states, with the ways to them. No program in sight. -/
namespace Py.U
abbrev P2 := Nat × Nat
/-- a found pair, the way to it, the reading that leads to it -/
abbrev Nd := P2 × Option (P2 × Nat) × List Nat
def addG (p : P2) (r : List Nat) (f : List Nd) (g : Nat × P2) : List Nd := if g.2 ∈ f.map (·.1) then f else f ++ [(g.2, some (p, g.1), r ++ [g.1])]
def stepG (f : List Nd) (n : Nd) (gs : List (Nat × P2)) : List Nd := gs.foldl (addG n.1 n.2.2) f
theorem stepG_char (n : Nd) : ∀ (gs : List (Nat × P2)) (f : List Nd), (f.map (·.1)).Nodup → ∃ r, stepG f n gs = f ++ r ∧ ((f ++ r).map (·.1)).Nodup ∧ (∀ x ∈ r, ∃ l, (l, x.1) ∈ gs ∧ x = (x.1, some (n.1, l), n.2.2 ++ [l])) ∧ ∀ g ∈ gs, g.2 ∈ (f ++ r).map (·.1)
  | [], f, h => ⟨[], by simp [stepG], by simpa using h, by simp, by simp⟩
  | g :: gs, f, h => by
    unfold stepG
    rw [List.foldl_cons]
    by_cases c : g.2 ∈ f.map (·.1)
    · have e : addG n.1 n.2.2 f g = f := if_pos c
      rw [e]
      obtain ⟨r, h1, h2, h3, h4⟩ := stepG_char n gs f h
      refine ⟨r, h1, h2, fun x hx => ?_, fun y hy => ?_⟩
      · obtain ⟨l, a, b⟩ := h3 x hx
        exact ⟨l, List.mem_cons_of_mem _ a, b⟩
      · rcases List.mem_cons.mp hy with rfl | hy
        · rw [List.map_append]
          exact List.mem_append_left _ c
        · exact h4 y hy
    · have e : addG n.1 n.2.2 f g = f ++ [(g.2, some (n.1, g.1), n.2.2 ++ [g.1])] := if_neg c
      rw [e]
      have hn : ((f ++ [(g.2, some (n.1, g.1), n.2.2 ++ [g.1])]).map (·.1)).Nodup := by
        rw [List.map_append, List.nodup_append]
        refine ⟨h, by simp, fun a ha b hb => ?_⟩
        rw [List.map_singleton] at hb
        rw [List.mem_singleton.mp hb]
        rintro rfl
        exact c ha
      obtain ⟨r, h1, h2, h3, h4⟩ := stepG_char n gs _ hn
      refine ⟨(g.2, some (n.1, g.1), n.2.2 ++ [g.1]) :: r, ?_, ?_, fun x hx => ?_, fun y hy => ?_⟩
      · refine h1.trans ?_
        rw [List.append_assoc]
        rfl
      · rw [List.append_assoc] at h2
        exact h2
      · rcases List.mem_cons.mp hx with rfl | hx
        · exact ⟨g.1, List.mem_cons_self, rfl⟩
        · obtain ⟨l, a, b⟩ := h3 x hx
          exact ⟨l, List.mem_cons_of_mem _ a, b⟩
      · rcases List.mem_cons.mp hy with rfl | hy
        · simp
        · have := h4 y hy
          rw [List.append_assoc] at this
          exact this
structure Wf (gs : P2 → List (Nat × P2)) (b : P2) (f : List Nd) (a : Nat) : Prop where
  nd : (f.map (·.1)).Nodup
  hd : f[0]? = some (b, none, [])
  par : ∀ (j : Nat) (n : Nd), f[j]? = some n → j = 0 ∨ ∃ (i : Nat) (m : Nd) (l : Nat), i < j ∧ i < a ∧ f[i]? = some m ∧ n = (n.1, some (m.1, l), m.2.2 ++ [l]) ∧ (l, n.1) ∈ gs m.1
  clo : ∀ (i : Nat) (n : Nd), i < a → f[i]? = some n → ∀ g ∈ gs n.1, ∃ (j : Nat) (m : Nd), f[j]? = some m ∧ m.1 = g.2 ∧ m.2.2.length ≤ n.2.2.length + 1
  mono : ∀ (i j : Nat) (m n : Nd), i ≤ j → f[i]? = some m → f[j]? = some n → m.2.2.length ≤ n.2.2.length
  top : ∀ (i : Nat) (n m : Nd), f[a]? = some n → f[i]? = some m → m.2.2.length ≤ n.2.2.length + 1
theorem Wf.step {gs : P2 → List (Nat × P2)} {b : P2} {f : List Nd} {a : Nat} (h : Wf gs b f a) {n : Nd} (hn : f[a]? = some n) : Wf gs b (stepG f n (gs n.1)) (a + 1) := by
  obtain ⟨r, e, h2, h3, h4⟩ := stepG_char n (gs n.1) f h.nd
  rw [e]
  have ha : a < f.length := (List.getElem?_eq_some_iff.mp hn).1
  have old : ∀ (j : Nat) (m : Nd), (f ++ r)[j]? = some m → (j < f.length ∧ f[j]? = some m) ∨ (f.length ≤ j ∧ m ∈ r ∧ m.2.2.length = n.2.2.length + 1) := fun j m hm => by
    by_cases c : j < f.length
    · rw [List.getElem?_append_left c] at hm
      exact .inl ⟨c, hm⟩
    · rw [List.getElem?_append_right (by omega)] at hm
      have hr := List.mem_of_getElem? hm
      obtain ⟨l, _, q⟩ := h3 m hr
      refine .inr ⟨by omega, hr, ?_⟩
      rw [q]
      simp
  have new : ∀ {j : Nat} {m : Nd}, f[j]? = some m → (f ++ r)[j]? = some m := fun {j m} hm => by
    rw [List.getElem?_append_left (List.getElem?_eq_some_iff.mp hm).1]
    exact hm
  have all : ∀ (j : Nat) (m : Nd), (f ++ r)[j]? = some m → m.2.2.length ≤ n.2.2.length + 1 := fun j m hm => by
    rcases old j m hm with ⟨_, q⟩ | ⟨_, _, q⟩
    · exact h.top j n m hn q
    · omega
  refine ⟨h2, new h.hd, fun j m hm => ?_, fun i m hi hm g hg => ?_, fun i j m m' hij hm hm' => ?_, fun i m m' hm hm' => ?_⟩
  · rcases old j m hm with ⟨_, q⟩ | ⟨q1, q2, _⟩
    · rcases h.par j m q with q | ⟨i, m', l, i1, i2, i3, i4, i5⟩
      · exact .inl q
      · exact .inr ⟨i, m', l, i1, by omega, new i3, i4, i5⟩
    · obtain ⟨l, x1, x2⟩ := h3 m q2
      exact .inr ⟨a, n, l, by omega, by omega, new hn, x2, x1⟩
  · by_cases c : i = a
    · subst c
      have e2 : m = n := Option.some.inj (hm.symm.trans (new hn))
      subst e2
      obtain ⟨m', x1, x2⟩ := List.mem_map.mp (h4 g hg)
      obtain ⟨j, hj, rfl⟩ := List.mem_iff_getElem.mp x1
      exact ⟨j, _, List.getElem?_eq_getElem hj, x2, all j _ (List.getElem?_eq_getElem hj)⟩
    · have hi2 : i < a := by omega
      rcases old i m hm with ⟨_, q⟩ | ⟨q, _⟩
      · obtain ⟨j, m', x1, x2, x3⟩ := h.clo i m hi2 q g hg
        exact ⟨j, m', new x1, x2, x3⟩
      · omega
  · rcases old i m hm with ⟨_, q⟩ | ⟨q, _, q3⟩
    · rcases old j m' hm' with ⟨_, q'⟩ | ⟨_, _, q'⟩
      · exact h.mono i j m m' hij q q'
      · have := h.top i n m hn q
        omega
    · rcases old j m' hm' with ⟨q', _⟩ | ⟨_, _, q'⟩
      · omega
      · omega
  · have l1 := all i m' hm'
    have : n.2.2.length ≤ m.2.2.length := by
      rcases old (a + 1) m hm with ⟨_, q⟩ | ⟨_, _, q⟩
      · exact h.mono a (a + 1) n m (by omega) hn q
      · omega
    omega
/-! ### readings lead to the pairs -/
section
variable {L : Nat} {nx1 os1 nx2 os2 : List (List Nat)}
def stW (nx : List (List Nat)) (s : Nat) (w : List Nat) : Nat := w.foldl (fun s l => at1 (rw1 nx s) l) s
theorem stW_snoc (nx : List (List Nat)) (s : Nat) (w : List Nat) (l : Nat) : stW nx s (w ++ [l]) = at1 (rw1 nx (stW nx s w)) l := by
  unfold stW
  rw [List.foldl_append]
  rfl
def runP (nx1 nx2 : List (List Nat)) (b : P2) (w : List Nat) : P2 := (stW nx1 b.1 w, stW nx2 b.2 w)
def gsP (L : Nat) (nx1 nx2 : List (List Nat)) (p : P2) : List (Nat × P2) := (List.range L).map fun l => (l, (at1 (rw1 nx1 p.1) l, at1 (rw1 nx2 p.2) l))
theorem mem_gsP {p g : P2} {l : Nat} : (l, g) ∈ gsP L nx1 nx2 p ↔ l < L ∧ g = (at1 (rw1 nx1 p.1) l, at1 (rw1 nx2 p.2) l) := by
  unfold gsP
  constructor
  · intro h
    obtain ⟨x, hx, e⟩ := List.mem_map.mp h
    have := List.mem_range.mp hx
    cases e
    exact ⟨this, rfl⟩
  · rintro ⟨h, rfl⟩
    exact List.mem_map.mpr ⟨l, List.mem_range.mpr h, rfl⟩
theorem Wf.lead {b : P2} {f : List Nd} {a : Nat} (h : Wf (gsP L nx1 nx2) b f a) : ∀ (j : Nat) (n : Nd), f[j]? = some n → runP nx1 nx2 b n.2.2 = n.1 ∧ ∀ l ∈ n.2.2, l < L := by
  intro j
  induction j using Nat.strongRecOn with
  | ind j ih =>
    intro n hn
    rcases h.par j n hn with rfl | ⟨i, m, l, i1, i2, i3, i4, i5⟩
    · have := Option.some.inj (hn.symm.trans h.hd)
      subst this
      exact ⟨rfl, by simp⟩
    · obtain ⟨q1, q2⟩ := ih i i1 m i3
      obtain ⟨g1, g2⟩ := mem_gsP.mp i5
      have er : n.2.2 = m.2.2 ++ [l] := by rw [i4]
      rw [er]
      refine ⟨?_, fun x hx => ?_⟩
      · rw [g2]
        unfold runP at q1 ⊢
        rw [stW_snoc, stW_snoc, ← q1]
      · rcases List.mem_append.mp hx with c | c
        · exact q2 x c
        · rw [List.mem_singleton.mp c]
          exact g1
end
end Py.U
/-! The two searches over pairs find the same. -/
/-! The first reading by which two states are apart. -/
namespace Py.U
section
variable {S1 S2 L B : Nat} {nx1 os1 nx2 os2 : List (List Nat)}
theorem stW_lt {S : Nat} {nx : List (List Nat)} (h : Tbl S L S nx) : ∀ (w : List Nat) (s : Nat), s < S → (∀ l ∈ w, l < L) → stW nx s w < S
  | [], s, hs, _ => hs
  | l :: w, s, hs, hl => stW_lt h w (at1 (rw1 nx s) l) ((h.at hs).2.2 _ (at1_mem (by rw [(h.at hs).2.1]; exact hl l List.mem_cons_self))) fun x hx => hl x (List.mem_cons_of_mem _ hx)
theorem Wf.lt (h1 : Tbl S1 L S1 nx1) (h2 : Tbl S2 L S2 nx2) {b : P2} (hb : b.1 < S1 ∧ b.2 < S2) {f : List Nd} {a : Nat} (h : Wf (gsP L nx1 nx2) b f a) {n : Nd} (hn : n ∈ f) : n.1.1 < S1 ∧ n.1.2 < S2 := by
  obtain ⟨j, hj, rfl⟩ := List.mem_iff_getElem.mp hn
  obtain ⟨q1, q2⟩ := h.lead j _ (List.getElem?_eq_getElem hj)
  rw [← q1]
  exact ⟨stW_lt h1 _ _ hb.1 q2, stW_lt h2 _ _ hb.2 q2⟩
theorem all_pairs (S1 S2 : Nat) : ((List.range S1).flatMap fun i => (List.range S2).map fun j => (i, j)).length = S1 * S2 := by
  rw [List.length_flatMap]
  have : (List.range S1).map (fun a => ((List.range S2).map fun j => (a, j)).length) = List.replicate S1 S2 := by
    apply List.ext_getElem <;> simp
  rw [this]
  simp
theorem Wf.size (h1 : Tbl S1 L S1 nx1) (h2 : Tbl S2 L S2 nx2) {b : P2} (hb : b.1 < S1 ∧ b.2 < S2) (f : List Nd) (a : Nat) (h : Wf (gsP L nx1 nx2) b f a) : f.length ≤ S1 * S2 := by
  have q := h.nd.length_le_of_subset (l₂ := (List.range S1).flatMap fun i => (List.range S2).map fun j => (i, j)) fun p hp => by
    obtain ⟨n, hn, rfl⟩ := List.mem_map.mp hp
    obtain ⟨a1, a2⟩ := h.lt h1 h2 hb hn
    exact List.mem_flatMap.mpr ⟨n.1.1, List.mem_range.mpr a1, List.mem_map.mpr ⟨n.1.2, List.mem_range.mpr a2, rfl⟩⟩
  rw [all_pairs, List.length_map] at q
  exact q
/-! ### both exchanged -/
end
end Py.U
/-! The dict of the ways to pairs, as data. -/
namespace Py.U
open PySem
/-! ### equations of what is lent -/
theorem upX_ok {m : EM} {e : Env} {d : D} (h : m e = .ok d) : upX m e = .ok (d, e) := by unfold upX; rw [h]; rfl
theorem xaC_ok {a : XM} {r : XA} {e e1 e2 : Env} {d : D} {ds : List D} (h : a e = .ok (d, e1)) (k : r e1 = .ok (ds, e2)) : xaC a r e = .ok (d :: ds, e2) := by
  unfold xaC
  rw [h, bind_ok, k]
  rfl
theorem xaN_ok {e : Env} : xaN e = .ok ([], e) := rfl
theorem var_at {e : Env} {i : Nat} {d : D} (h : e[i]? = some (some d)) : var i e = .ok d := by unfold var; rw [h]
theorem lendX_ok {i : Nat} {f : List D → Res D} {a : XA} {e e1 : Env} {o0 o : D} {ds : List D} {d l : D} (h0 : e[i]? = some (some o0)) (ha : a e = .ok (ds, e1)) (h1 : e1[i]? = some (some o)) (hf : f (o :: ds) = .ok (.tup [d, l])) : lendX i f a e = .ok (d, e1.set i (some l)) := by
  unfold lendX
  rw [var_at h0, bind_ok, ha, bind_ok, var_at h1, bind_ok, hf]
  rfl
theorem lendM_ok {c m : String} {i : Nat} {f : List D → Res D} {a : XA} {e e1 : Env} {fs : List (String × D)} {o : D} {ds : List D} {d l : D} (h0 : e[i]? = some (some (.ins c fs))) (hm : (fs.lookup m).isNone = true) (ha : a e = .ok (ds, e1)) (h1 : e1[i]? = some (some o)) (hf : f (o :: ds) = .ok (.tup [d, l])) :
    lendM c m i f a e = .ok (d, e1.set i (some l)) := by
  unfold lendM
  rw [var_at h0, bind_ok]
  dsimp only
  rw [if_pos ⟨rfl, hm⟩]
  exact lendX_ok h0 ha h1 hf
theorem retL_ok {m : XM} {e e1 : Env} {d l : D} (h : m e = .ok (d, e1)) (h0 : e1[0]? = some (some l)) : retL m e = .ok (.ret (.tup [d, l])) := by
  unfold retL
  rw [h, bind_ok, var_at h0]
  rfl
theorem fnL_ok {p n : Nat} {body : SM} {ds : List D} {d : D} (hl : ds.length = p) (h : body (ds.map some ++ List.replicate (n - p) none) = .ok (.ret d)) : fnL p n body ds = .ok d := by
  unfold fnL
  rw [if_pos hl, h]
  rfl
theorem xeq_ok {a b : XM} {e e1 e2 : Env} {x y : Nat} (ha : a e = .ok (nD x, e1)) (hb : b e1 = .ok (nD y, e2)) : tstX (binX oeq a b) e = .ok (decide (x = y), e2) := by
  unfold tstX binX
  rw [ha, bind_ok, hb, bind_ok, nat_eq, bind_ok, bind_ok]
  rfl
theorem hitX {t : XT} {a r : SM} {e e1 : Env} {d : D} (h : t e = .ok (true, e1)) (ha : a e1 = .ok (.ret d)) : seq (iteX t a skip) r e = .ok (.ret d) := by
  unfold seq iteX
  rw [h, bind_ok, if_pos rfl, ha]
  rfl
theorem passX {t : XT} {a r : SM} {e e1 : Env} (h : t e = .ok (false, e1)) : seq (iteX t a skip) r e = r e1 := by
  unfold seq iteX
  rw [h, bind_ok, if_neg Bool.false_ne_true]
  rfl
theorem orX_t {a b : XT} {e e1 : Env} (h : a e = .ok (true, e1)) : orX a b e = .ok (true, e1) := by unfold orX; rw [h]; rfl
theorem orX_f {a b : XT} {e e1 : Env} (h : a e = .ok (false, e1)) : orX a b e = b e1 := by unfold orX; rw [h]; rfl
theorem upT_ok {m : TM} {e : Env} {b : Bool} (h : m e = .ok b) : upT m e = .ok (b, e) := by unfold upT; rw [h]; rfl
theorem hit {t : TM} {b r : SM} {e : Env} {f : D} (ht : t e = .ok true) (hb : b e = .ok (.ret f)) : seq (Py.ite t b skip) r e = .ok (.ret f) := by
  unfold seq Py.ite
  rw [ht, bind_ok, if_pos rfl, hb]
  rfl
/-! ### deeds as keys -/
theorem eqvL_nums : ∀ (a b : List Nat), eqv.eqvL (a.map nD) (b.map nD) = decide (a = b)
  | [], [] => rfl
  | [], _ :: _ => rfl
  | _ :: _, [] => rfl
  | x :: a, y :: b => by
    simp only [List.map_cons, eqv.eqvL, nD_eq, eqvL_nums a b, List.cons.injEq]
    by_cases q : x = y <;> simp [q]
theorem deed_eqv (x y : Deed) : eqv x.d y.d = decide (x = y) := by
  cases x <;> cases y <;> simp only [Deed.d, eqv, eqv.eqvL, nD_eq, eqvL_nums, reduceCtorEq, Deed.inv.injEq, Deed.and.injEq, Deed.or.injEq, Deed.xor.injEq, Deed.shift.injEq, Deed.minus.injEq, Deed.add.injEq, Deed.sub.injEq, Deed.count.injEq, Bool.and_true, decide_false, Bool.false_and, Bool.and_false, beq_self_eq_true, Bool.true_and, Bool.decide_and, decide_true] <;> rfl
theorem hk_nums (k : Nat) (ps : List Nat) : (ps.map nD).all (hk k) = true := by
  rw [List.all_eq_true]
  intro d hd
  obtain ⟨a, _, rfl⟩ := List.mem_map.mp hd
  cases k <;> rfl
theorem key_deed : KeyE true Deed.d := ⟨deed_eqv, fun x => by
  cases x <;> first | rfl | skip
  rename_i p r ps
  show hk 8 (.tup [.str "count", nD p, nD r, .tup (ps.map nD)]) = true
  simp only [hk, List.all_cons, List.all_nil, hk_nums, nD, Bool.and_self]⟩
/-! ### the builder -/
abbrev PMS := 100000
abbrev bF (n : Nat) (s : List Deed) : List (String × D) := [("inputs", nD n), ("deeds", .lst (s.map Deed.d)), ("numbers", .dic true (tabF Deed.d n s))]
def bD (n : Nat) (s : List Deed) : D := .ins "Builder" (bF n s)
abbrev BS := Nat × List Deed
def mPut (n : Nat) (x : Deed) (s : List Deed) : BS := if x ∈ s then (n + s.idxOf x, s) else (n + s.length, s ++ [x])
abbrev bk (n : Nat) (p : BS) : Res D := .ok (.tup [nD p.1, bD n p.2])
theorem bl_look {n : Nat} {s : List Deed} {m : String} (h : ((bF n s).lookup m).isNone = true) {i : Nat} {e e1 : Env} {f : List D → Res D} {a : XA} {ds : List D} {s1 : List Deed} {p : BS}
    (h0 : e[i]? = some (some (bD n s))) (ha : a e = .ok (ds, e1)) (h1 : e1[i]? = some (some (bD n s1))) (hf : f (bD n s1 :: ds) = bk n p) : lendM "Builder" m i f a e = .ok (nD p.1, e1.set i (some (bD n p.2))) := lendM_ok h0 h ha h1 hf
theorem bl_fld (n : Nat) (s : List Deed) : fldD "Builder" "deeds" (bD n s) = .ok (bF n s, .lst (s.map Deed.d)) ∧ fldD "Builder" "numbers" (bD n s) = .ok (bF n s, .dic true (tabF Deed.d n s)) := by
  unfold bD fldD
  dsimp only
  rw [if_pos ⟨rfl, by simp⟩, if_pos ⟨rfl, by simp⟩]
  exact ⟨rfl, rfl⟩
theorem put_ok {n : Nat} {s : List Deed} (hz : s.length < PMS) (x : Deed) : m_Builder_put [bD n s, x.d] = bk n (mPut n x s) := by
  refine fnL_ok rfl ?_
  have hlt : (s.map Deed.d).length < SZ := by rw [List.length_map]; exact Nat.lt_trans hz (by decide)
  have hlt2 : (tabF Deed.d n s).length < SZ := by rw [tabF_len]; exact Nat.lt_trans hz (by decide)
  have hkx := key_deed.ok x
  show b_Builder_put [some (bD n s), some x.d] = _
  unfold b_Builder_put
  have hn : ∀ s', un (oattr ["Builder"] "numbers") (var 0) [some (bD n s'), some x.d] = .ok (.dic true (tabF Deed.d n s')) := fun _ => rfl
  have ht : tst (bin onotin (var 1) (un (oattr ["Builder"] "numbers") (var 0))) [some (bD n s), some x.d] = .ok (!decide (x ∈ s)) := by
    unfold tst bin
    rw [hn, var_at (d := x.d) rfl, bind_ok, bind_ok, onotin_dic hkx, find_tabF key_deed]
    by_cases q : x ∈ s
    · rw [if_pos q, decide_eq_true q]; rfl
    · rw [if_neg q, decide_eq_false q]; rfl
  by_cases q : x ∈ s
  · rw [decide_eq_true q] at ht
    have em : mPut n x s = (n + s.idxOf x, s) := if_pos q
    rw [chk_pass ht, em]
    refine retL_ok (e1 := [some (bD n s), some x.d]) (d := nD (n + s.idxOf x)) (upX_ok ?_) rfl
    · show (un (oattr ["Builder"] "numbers") (var 0) [some (bD n s), some x.d] >>= fun a => var 1 [some (bD n s), some x.d] >>= fun b => oidx a b) = _
      rw [hn, bind_ok, var_at (d := x.d) rfl, bind_ok]
      refine oidx_dic hkx ?_
      rw [find_tabF key_deed, if_pos q]
  · rw [decide_eq_false q] at ht
    have ep := put_tabF key_deed x s n q
    have e1 : s.map Deed.d ++ [x.d] = (s ++ [x]).map Deed.d := by simp
    have hv : bin oadd (un (oattr ["Builder"] "inputs") (var 0)) (un blen (un (oattr ["Builder"] "deeds") (var 0))) [some (bD n s), some x.d] = .ok (nD (n + s.length)) := by
      have h1 : un (oattr ["Builder"] "inputs") (var 0) [some (bD n s), some x.d] = .ok (nD n) := rfl
      have h2 : un blen (un (oattr ["Builder"] "deeds") (var 0)) [some (bD n s), some x.d] = .ok (nD s.length) := by
        rw [← List.length_map (f := Deed.d) (as := s)]
        rfl
      unfold bin
      rw [h1, bind_ok, h2, bind_ok, nadd]
    have hS : setFD 0 "Builder" "numbers" (var 1) (bin oadd (un (oattr ["Builder"] "inputs") (var 0)) (un blen (un (oattr ["Builder"] "deeds") (var 0)))) [some (bD n s), some x.d] = .ok (.next [some (.ins "Builder" [("inputs", nD n), ("deeds", .lst (s.map Deed.d)), ("numbers", .dic true (tabF Deed.d n (s ++ [x])))]), some x.d]) := by
      unfold setFD
      rw [var_at (d := bD n s) rfl, bind_ok, (bl_fld n s).2, bind_ok]
      dsimp only
      rw [hv, bind_ok, var_at (d := x.d) rfl, bind_ok, hkx, decide_eq_true hlt2, ep]
      rfl
    have hA : appF 0 "Builder" "deeds" (var 1) [some (.ins "Builder" [("inputs", nD n), ("deeds", .lst (s.map Deed.d)), ("numbers", .dic true (tabF Deed.d n (s ++ [x])))]), some x.d] = .ok (.next [some (bD n (s ++ [x])), some x.d]) := by
      unfold appF
      rw [var_at (d := .ins "Builder" [("inputs", nD n), ("deeds", .lst (s.map Deed.d)), ("numbers", .dic true (tabF Deed.d n (s ++ [x])))]) rfl, bind_ok]
      have : fldD "Builder" "deeds" (.ins "Builder" [("inputs", nD n), ("deeds", .lst (s.map Deed.d)), ("numbers", .dic true (tabF Deed.d n (s ++ [x])))]) = .ok ([("inputs", nD n), ("deeds", .lst (s.map Deed.d)), ("numbers", .dic true (tabF Deed.d n (s ++ [x])))], .lst (s.map Deed.d)) := by
        unfold fldD
        dsimp only
        rw [if_pos ⟨rfl, by simp⟩]
        rfl
      rw [this, bind_ok]
      dsimp only
      rw [var_at (d := x.d) rfl, bind_ok, if_pos hlt, e1]
      rfl
    have hB : seq (setFD 0 "Builder" "numbers" (var 1) (bin oadd (un (oattr ["Builder"] "inputs") (var 0)) (un blen (un (oattr ["Builder"] "deeds") (var 0))))) (appF 0 "Builder" "deeds" (var 1)) [some (bD n s), some x.d] = .ok (.next [some (bD n (s ++ [x])), some x.d]) := by
      rw [seq_next hS, hA]
    have em : mPut n x s = (n + s.length, s ++ [x]) := if_neg q
    rw [ite_in ht hB, em]
    refine retL_ok (e1 := [some (bD n (s ++ [x])), some x.d]) (d := nD (n + s.length)) (upX_ok ?_) rfl
    · show (un (oattr ["Builder"] "numbers") (var 0) [some (bD n (s ++ [x])), some x.d] >>= fun a => var 1 [some (bD n (s ++ [x])), some x.d] >>= fun b => oidx a b) = _
      rw [hn, bind_ok, var_at (d := x.d) rfl, bind_ok]
      refine oidx_dic hkx ?_
      rw [find_tabF key_deed, if_pos (by simp), List.idxOf_append, if_neg q]
      simp
end Py.U
namespace Py.U
open PySem
/-! ### what deeds compute -/
theorem at0_old {l r : List Nat} {i : Nat} (h : i < l.length) : at0 (l ++ r) i = at0 l i := by
  unfold at0
  rw [List.getD_eq_getElem?_getD, List.getD_eq_getElem?_getD, List.getElem?_append_left h]
theorem at0_new {l : List Nat} {v i : Nat} (h : l.length = i) : at0 (l ++ [v]) i = v := by
  unfold at0
  subst h
  simp
theorem runD_snoc (ms bs : List Nat) (xs : List Deed) (x : Deed) : runD ms bs (xs ++ [x]) = stp ms (runD ms bs xs) x := by
  unfold runD
  rw [List.foldl_append]
  rfl
theorem stp_u {ms : List Nat} {s : St} {x : Deed} (h : x.marked = false) : stp ms s x = (s.1 ++ [x.bit0 s.1], s.2) := by
  unfold stp
  rw [h]
  rfl
theorem stp_ext (ms : List Nat) (s : St) (x : Deed) : ∃ v, (stp ms s x).1 = s.1 ++ [v] := by
  unfold stp
  split <;> exact ⟨_, rfl⟩
theorem run_pre (ms bs : List Nat) (s : List Deed) : ∀ t : List Deed, ∃ u, (runD ms bs (s ++ t)).1 = (runD ms bs s).1 ++ u ∧ u.length = t.length := by
  have key : ∀ (t : List Deed) (q : St), ∃ u, (t.foldl (stp ms) q).1 = q.1 ++ u ∧ u.length = t.length := by
    intro t
    induction t with
    | nil => exact fun q => ⟨[], by simp, rfl⟩
    | cons x t ih =>
      intro q
      obtain ⟨v, hv⟩ := stp_ext ms q x
      obtain ⟨u, hu, hl⟩ := ih (stp ms q x)
      exact ⟨v :: u, by rw [List.foldl_cons, hu, hv]; simp, by simp [hl]⟩
  intro t
  unfold runD
  rw [List.foldl_append]
  exact key t _
theorem run_len (ms bs : List Nat) (s : List Deed) : (runD ms bs s).1.length = bs.length + s.length := by
  obtain ⟨u, h, l⟩ := run_pre ms bs [] s
  rw [List.nil_append] at h
  rw [h, List.length_append, l]
  rfl
def Deed.lg : Deed → Bool
  | .zero => true
  | .ones => true
  | .inv _ => true
  | .and _ _ => true
  | .or _ _ => true
  | _ => false
theorem lg_mark {x : Deed} (h : x.lg = true) : x.marked = false := by cases x <;> first | rfl | cases h
theorem Bits.snoc' {l : List Nat} {v : Nat} (h : Bits l) (hv : v = 0 ∨ v = 1) : Bits (l ++ [v]) := fun b hb => by
  rcases List.mem_append.mp hb with z | z
  · exact h b z
  · rw [List.mem_singleton.mp z]
    exact hv
def vl (ms bs : List Nat) (s : List Deed) (i : Nat) : Nat := at0 (runD ms bs s).1 i
structure Good (n : Nat) (ms bs : List Nat) (s : List Deed) : Prop where
  b0 : Bits bs
  l0 : bs.length = n
  bits : Bits (runD ms bs s).1
theorem Good.v01 {n : Nat} {ms bs : List Nat} {s : List Deed} (g : Good n ms bs s) (i : Nat) : vl ms bs s i = 0 ∨ vl ms bs s i = 1 := at0_01 g.bits i
theorem vl_old {n : Nat} {ms bs : List Nat} {s t : List Deed} (hl : bs.length = n) {i : Nat} (hi : i < n + s.length) : vl ms bs (s ++ t) i = vl ms bs s i := by
  obtain ⟨u, h, _⟩ := run_pre ms bs s t
  unfold vl
  rw [h]
  exact at0_old (by rw [run_len, hl]; exact hi)
/-- bit0 looks at the deed's values alone -/
def Deed.nums : Deed → List Nat
  | .inv a => [a]
  | .and a b => [a, b]
  | .or a b => [a, b]
  | .xor a b => [a, b]
  | .shift a => [a]
  | .minus a => [a]
  | .add a b => [a, b]
  | .sub a b => [a, b]
  | .count _ _ ps => ps
  | _ => []
theorem nums_lt {N : Nat} {x : Deed} (hx : x.ok N) : ∀ a ∈ x.nums, a < N := by
  cases x with
  | count p r ps => exact hx.2.2.2.2
  | zero => simp [Deed.nums]
  | ones => simp [Deed.nums]
  | inv a => exact fun b hb => by rw [List.mem_singleton.mp hb]; exact hx
  | shift a => exact fun b hb => by rw [List.mem_singleton.mp hb]; exact hx
  | minus a => exact fun b hb => by rw [List.mem_singleton.mp hb]; exact hx
  | and a b => exact fun c hc => by rcases List.mem_cons.mp hc with z | z; rw [z]; exact hx.1; rw [List.mem_singleton.mp z]; exact hx.2
  | or a b => exact fun c hc => by rcases List.mem_cons.mp hc with z | z; rw [z]; exact hx.1; rw [List.mem_singleton.mp z]; exact hx.2
  | xor a b => exact fun c hc => by rcases List.mem_cons.mp hc with z | z; rw [z]; exact hx.1; rw [List.mem_singleton.mp z]; exact hx.2
  | add a b => exact fun c hc => by rcases List.mem_cons.mp hc with z | z; rw [z]; exact hx.1; rw [List.mem_singleton.mp z]; exact hx.2
  | sub a b => exact fun c hc => by rcases List.mem_cons.mp hc with z | z; rw [z]; exact hx.1; rw [List.mem_singleton.mp z]; exact hx.2
theorem bit0_cong {x : Deed} {b c : List Nat} (h : ∀ a ∈ x.nums, at0 b a = at0 c a) : x.bit0 b = x.bit0 c := by
  cases x <;> first | rfl | (simp only [Deed.nums, List.mem_cons, List.not_mem_nil, or_false, forall_eq_or_imp, forall_eq] at h; simp only [Deed.bit0, h])
/-- the value of an unmarked deed that stands in the row -/
theorem vl_at {n : Nat} {ms bs : List Nat} {s : List Deed} (hr : Row n s) (hl : bs.length = n) {k : Nat} (hk : k < s.length) (hm : s[k].marked = false) : vl ms bs s (n + k) = s[k].bit0 (runD ms bs s).1 := by
  have e : s = (s.take k ++ [s[k]]) ++ s.drop (k + 1) := by
    rw [List.append_assoc, List.singleton_append, ← List.drop_eq_getElem_cons hk, List.take_append_drop]
  have ht : (s.take k).length = k := by rw [List.length_take]; omega
  have h1 : vl ms bs s (n + k) = vl ms bs (s.take k ++ [s[k]]) (n + k) := by
    conv => lhs; rw [e]
    exact vl_old hl (by simp; omega)
  have h2 : vl ms bs (s.take k ++ [s[k]]) (n + k) = s[k].bit0 (runD ms bs (s.take k)).1 := by
    unfold vl
    rw [runD_snoc, stp_u hm]
    exact at0_new (by rw [run_len, ht, hl])
  rw [h1, h2]
  refine bit0_cong fun a ha => ?_
  have la := nums_lt (hr k hk) a ha
  have h3 : vl ms bs s a = vl ms bs (s.take k) a := by
    conv => lhs; rw [← List.take_append_drop k s]
    exact vl_old hl (by rw [ht]; exact la)
  exact h3.symm
/-- a step of the builder: it gives back number r.1, k deeds at most are new, logic all; v tells its value -/
structure Op (n : Nat) (s : List Deed) (r : BS) (v : (Nat → Nat) → Nat) (k : Nat) : Prop where
  row : Row n r.2
  pre : ∃ t, r.2 = s ++ t ∧ (∀ x ∈ t, x.lg = true) ∧ t.length ≤ k
  lt : r.1 < n + r.2.length
  sem : ∀ ms bs, Good n ms bs s → Good n ms bs r.2 ∧ vl ms bs r.2 r.1 = v (vl ms bs s)
section
variable {n : Nat} {s : List Deed} {r : BS} {v : (Nat → Nat) → Nat} {k : Nat}
theorem Op.len (h : Op n s r v k) : s.length ≤ r.2.length ∧ r.2.length ≤ s.length + k := by
  obtain ⟨t, e, _, l⟩ := h.pre
  rw [e, List.length_append]
  omega
theorem Op.old (h : Op n s r v k) {ms bs : List Nat} (hl : bs.length = n) {i : Nat} (hi : i < n + s.length) : vl ms bs r.2 i = vl ms bs s i := by
  obtain ⟨t, e, _, _⟩ := h.pre
  rw [e]
  exact vl_old hl hi
theorem Op.up {k' : Nat} (h : Op n s r v k) (hk : k ≤ k') : Op n s r v k' := ⟨h.row, let ⟨t, e, l, z⟩ := h.pre; ⟨t, e, l, Nat.le_trans z hk⟩, h.lt, h.sem⟩
/-- one step, then one more -/
theorem Op.trans {r2 : BS} {v2 v' : (Nat → Nat) → Nat} {k2 : Nat} (a : Op n s r v k) (b : Op n r.2 r2 v2 k2) (hv : ∀ w w' : Nat → Nat, (∀ i, i < n + s.length → w' i = w i) → (∀ i, w i = 0 ∨ w i = 1) → (∀ i, w' i = 0 ∨ w' i = 1) → w' r.1 = v w → v2 w' = v' w) : Op n s r2 v' (k + k2) := by
  refine ⟨b.row, ?_, b.lt, fun ms bs g => ?_⟩
  · obtain ⟨t, e, l, z⟩ := a.pre
    obtain ⟨t2, e2, l2, z2⟩ := b.pre
    refine ⟨t ++ t2, by rw [e2, e, List.append_assoc], fun x hx => ?_, by rw [List.length_append]; omega⟩
    rcases List.mem_append.mp hx with w | w
    · exact l x w
    · exact l2 x w
  · obtain ⟨g1, e1⟩ := a.sem ms bs g
    obtain ⟨g2, e2⟩ := b.sem ms bs g1
    exact ⟨g2, e2.trans (hv _ _ (fun i hi => a.old g.l0 hi) g.v01 g1.v01 e1)⟩
/-- one step, then another number is given back -/
theorem Op.ret {i : Nat} {v' : (Nat → Nat) → Nat} (a : Op n s r v k) (hi : i < n + r.2.length) (hv : ∀ ms bs, Good n ms bs s → Good n ms bs r.2 → vl ms bs r.2 r.1 = v (vl ms bs s) → (∀ j, j < n + s.length → vl ms bs r.2 j = vl ms bs s j) → vl ms bs r.2 i = v' (vl ms bs s)) : Op n s (i, r.2) v' k :=
  ⟨a.row, a.pre, hi, fun ms bs g => let ⟨g1, e1⟩ := a.sem ms bs g; ⟨g1, hv ms bs g g1 e1 fun j hj => a.old g.l0 hj⟩⟩
theorem Op.same {i : Nat} (hr : Row n s) (hi : i < n + s.length) : Op n s (i, s) (fun w => w i) 0 := ⟨hr, ⟨[], by simp, by simp, by simp⟩, hi, fun ms bs g => ⟨g, rfl⟩⟩
theorem put_op {x : Deed} (hr : Row n s) (hg : x.lg = true) (hx : x.ok (n + s.length)) (hv : ∀ bs : List Nat, Bits bs → x.bit0 bs = v (at0 bs)) : Op n s (mPut n x s) v 1 := by
  by_cases q : x ∈ s
  · have e : mPut n x s = (n + s.idxOf x, s) := if_pos q
    have hk : s.idxOf x < s.length := List.idxOf_lt_length_of_mem q
    rw [e]
    refine ⟨hr, ⟨[], by simp, by simp, by simp⟩, Nat.add_lt_add_left hk n, fun ms bs g => ⟨g, ?_⟩⟩
    have ex : s[s.idxOf x] = x := List.getElem_idxOf hk
    show vl ms bs s (n + s.idxOf x) = _
    rw [vl_at hr g.l0 hk (by rw [ex]; exact lg_mark hg), ex]
    exact hv _ g.bits
  · have e : mPut n x s = (n + s.length, s ++ [x]) := if_neg q
    rw [e]
    refine ⟨hr.snoc hx, ⟨[x], rfl, fun y hy => by rw [List.mem_singleton.mp hy]; exact hg, by simp⟩, by show n + s.length < n + (s ++ [x]).length; simp, fun ms bs g => ?_⟩
    have er : runD ms bs (s ++ [x]) = ((runD ms bs s).1 ++ [x.bit0 (runD ms bs s).1], (runD ms bs s).2) := (runD_snoc ms bs s x).trans (stp_u (lg_mark hg))
    refine ⟨⟨g.b0, g.l0, by rw [er]; exact g.bits.snoc' (bit0_01 g.bits x)⟩, ?_⟩
    show vl ms bs (s ++ [x]) (n + s.length) = _
    unfold vl
    rw [er]
    dsimp only
    rw [at0_new (by rw [run_len, g.l0])]
    exact hv _ g.bits
/-! ### the program's methods -/
/-- what m_f gives back for the builder with the deeds s -/
abbrev Made (n : Nat) (s : List Deed) (x : Res D) (v : (Nat → Nat) → Nat) (k : Nat) : Prop := ∃ r, x = bk n r ∧ Op n s r v k
theorem zero_ok (hr : Row n s) (hz : s.length < PMS) : Made n s (m_Builder_zero [bD n s]) (fun _ => 0) 1 :=
  ⟨mPut n .zero s, fnL_ok rfl (retL_ok (bl_look rfl rfl (xaC_ok (upX_ok rfl) xaN_ok) rfl (put_ok hz .zero)) rfl), put_op hr rfl trivial fun _ _ => rfl⟩
theorem ones_ok (hr : Row n s) (hz : s.length < PMS) : Made n s (m_Builder_ones [bD n s]) (fun _ => 1) 1 :=
  ⟨mPut n .ones s, fnL_ok rfl (retL_ok (bl_look rfl rfl (xaC_ok (upX_ok rfl) xaN_ok) rfl (put_ok hz .ones)) rfl), put_op hr rfl trivial fun _ _ => rfl⟩
end
end Py.U
namespace Py.U
open PySem
section
variable {n : Nat} {s : List Deed}
/-! ### opposite, both_of, either_of -/
theorem bD_in (n : Nat) (s : List Deed) : oattr ["Builder"] "inputs" (bD n s) = .ok (nD n) := rfl
theorem bD_ds (n : Nat) (s : List Deed) : oattr ["Builder"] "deeds" (bD n s) = .ok (.lst (s.map Deed.d)) := rfl
theorem deed_at {i : Nat} (h1 : n ≤ i) (h2 : i < n + s.length) : oidx (.lst (s.map Deed.d)) (nD (i - n)) = .ok (s[i - n]'(by omega)).d := by
  have hl : i - n < (s.map Deed.d).length := by rw [List.length_map]; omega
  have q := oidx_l (xs := s.map Deed.d) (k := i - n) (d := (s.map Deed.d)[i - n]) (List.getElem?_eq_getElem hl)
  rw [List.getElem_map] at q
  exact q
theorem lend_zero {i : Nat} {e : Env} (hr : Row n s) (hz : s.length < PMS) (h0 : e[i]? = some (some (bD n s))) : ∃ r, lendM "Builder" "zero" i m_Builder_zero xaN e = .ok (nD r.1, e.set i (some (bD n r.2))) ∧ Op n s r (fun _ => 0) 1 := by
  obtain ⟨r, e1, o⟩ := zero_ok hr hz
  exact ⟨r, bl_look rfl h0 xaN_ok h0 e1, o⟩
theorem lend_ones {i : Nat} {e : Env} (hr : Row n s) (hz : s.length < PMS) (h0 : e[i]? = some (some (bD n s))) : ∃ r, lendM "Builder" "ones" i m_Builder_ones xaN e = .ok (nD r.1, e.set i (some (bD n r.2))) ∧ Op n s r (fun _ => 1) 1 := by
  obtain ⟨r, e1, o⟩ := ones_ok hr hz
  exact ⟨r, bl_look rfl h0 xaN_ok h0 e1, o⟩
theorem opp_ok (hr : Row n s) (hz : s.length + 9 < PMS) {i : Nat} (hi : i < n + s.length) : Made n s (m_Builder_opposite [bD n s, nD i]) (fun w => 1 - w i) 3 := by
  obtain ⟨z, z1, zo⟩ := lend_zero (i := 0) (e := [some (bD n s), some (nD i)]) hr (by omega) rfl
  have zl := zo.len
  have hB : ∀ d, b_Builder_opposite [some (bD n s), some (nD i)] = .ok (.ret d) → m_Builder_opposite [bD n s, nD i] = .ok d := fun d h => fnL_ok rfl h
  by_cases h1 : i = z.1
  · obtain ⟨r, r1, ro⟩ := lend_ones (i := 0) (e := [some (bD n z.2), some (nD i)]) zo.row (by omega) rfl
    refine ⟨r, hB _ (hitX ((xeq_ok (upX_ok rfl) z1).trans (by rw [decide_eq_true h1]; rfl)) (retL_ok r1 rfl)), (zo.trans ro fun w w' o _ _ e => ?_).up (by omega)⟩
    rw [← h1, o i hi] at e
    rw [e]
  obtain ⟨u, u1, uo⟩ := lend_ones (i := 0) (e := [some (bD n z.2), some (nD i)]) zo.row (by omega) rfl
  have ul := uo.len
  have zu : Op n s u (fun _ => 1) 2 := zo.trans uo fun _ _ _ _ _ _ => rfl
  have t1 : tstX (binX oeq (upX (var 1)) (lendM "Builder" "zero" 0 m_Builder_zero xaN)) [some (bD n s), some (nD i)] = .ok (false, [some (bD n z.2), some (nD i)]) := (xeq_ok (upX_ok rfl) z1).trans (by rw [decide_eq_false h1]; rfl)
  by_cases h2 : i = u.1
  · obtain ⟨r, r1, ro⟩ := lend_zero (i := 0) (e := [some (bD n u.2), some (nD i)]) uo.row (by omega) rfl
    refine ⟨r, hB _ ((passX t1).trans (hitX ((xeq_ok (upX_ok rfl) u1).trans (by rw [decide_eq_true h2]; rfl)) (retL_ok r1 rfl))), (zu.trans ro fun w w' o _ _ e => ?_).up (by omega)⟩
    rw [← h2, o i hi] at e
    rw [e]
  have t2 : tstX (binX oeq (upX (var 1)) (lendM "Builder" "ones" 0 m_Builder_ones xaN)) [some (bD n z.2), some (nD i)] = .ok (false, [some (bD n u.2), some (nD i)]) := (xeq_ok (upX_ok rfl) u1).trans (by rw [decide_eq_false h2]; rfl)
  have hiu : i < n + u.2.length := by have := zu.len; omega
  have put : ∀ t3 : andT (tst (bin oge (var 1) (un (oattr ["Builder"] "inputs") (var 0)))) (tst (bin oeq (bin oidx (bin oidx (un (oattr ["Builder"] "deeds") (var 0)) (bin osub (var 1) (un (oattr ["Builder"] "inputs") (var 0)))) (cst (.int 0))) (cst (.str "not")))) [some (bD n u.2), some (nD i)] = .ok false,
      Made n s (m_Builder_opposite [bD n s, nD i]) (fun w => 1 - w i) 3 := fun t3 => by
    refine ⟨mPut n (.inv i) u.2, hB _ ((passX t1).trans ((passX t2).trans ((chk_pass t3).trans (retL_ok (bl_look rfl rfl (xaC_ok (upX_ok rfl) xaN_ok) rfl (put_ok (by omega) (.inv i))) rfl)))), ?_⟩
    exact zu.trans (put_op (x := .inv i) (v := fun w => 1 - w i) uo.row rfl hiu fun _ _ => rfl) fun w w' o _ _ _ => by rw [o i hi]
  have q1 : bin oge (var 1) (un (oattr ["Builder"] "inputs") (var 0)) [some (bD n u.2), some (nD i)] = .ok (.bl (decide (n ≤ i))) := by
    show (var 1 [some (bD n u.2), some (nD i)] >>= fun a => (var 0 [some (bD n u.2), some (nD i)] >>= oattr ["Builder"] "inputs") >>= fun b => oge a b) = _
    rw [var_at (d := nD i) rfl, bind_ok, var_at (d := bD n u.2) rfl, bind_ok, bD_in, bind_ok]
    show Res.ok (D.bl (decide ((n : Int) ≤ (i : Int)))) = _
    simp
  by_cases h3 : n ≤ i
  · have ht1 : tst (bin oge (var 1) (un (oattr ["Builder"] "inputs") (var 0))) [some (bD n u.2), some (nD i)] = .ok true := by
      unfold tst
      rw [q1, decide_eq_true h3]
      rfl
    have hd := deed_at (s := u.2) h3 hiu
    have hsub : bin osub (var 1) (un (oattr ["Builder"] "inputs") (var 0)) [some (bD n u.2), some (nD i)] = .ok (nD (i - n)) := by
      show (var 1 [some (bD n u.2), some (nD i)] >>= fun a => (var 0 [some (bD n u.2), some (nD i)] >>= oattr ["Builder"] "inputs") >>= fun b => osub a b) = _
      rw [var_at (d := nD i) rfl, bind_ok, var_at (d := bD n u.2) rfl, bind_ok, bD_in, bind_ok, nsub h3]
    have hdd : bin oidx (un (oattr ["Builder"] "deeds") (var 0)) (bin osub (var 1) (un (oattr ["Builder"] "inputs") (var 0))) [some (bD n u.2), some (nD i)] = .ok (u.2[i - n]'(by omega)).d := by
      show ((var 0 [some (bD n u.2), some (nD i)] >>= oattr ["Builder"] "deeds") >>= fun a => bin osub (var 1) (un (oattr ["Builder"] "inputs") (var 0)) [some (bD n u.2), some (nD i)] >>= fun b => oidx a b) = _
      rw [var_at (d := bD n u.2) rfl, bind_ok, bD_ds, bind_ok, hsub, bind_ok, hd]
    have hlt : i - n < u.2.length := by omega
    have hrow := uo.row (i - n) hlt
    have hval := fun ms bs (g : Good n ms bs u.2) hm => vl_at (ms := ms) (bs := bs) uo.row g.l0 hlt hm
    have hx : ∀ x, u.2[i - n]'hlt = x → x.d = (u.2[i - n]'hlt).d := fun x h => by rw [h]
    generalize hX : u.2[i - n]'hlt = X at *
    have hnm : bin oidx (bin oidx (un (oattr ["Builder"] "deeds") (var 0)) (bin osub (var 1) (un (oattr ["Builder"] "inputs") (var 0)))) (cst (.int 0)) [some (bD n u.2), some (nD i)] = .ok (.str X.name) := by
      show (bin oidx (un (oattr ["Builder"] "deeds") (var 0)) (bin osub (var 1) (un (oattr ["Builder"] "inputs") (var 0))) [some (bD n u.2), some (nD i)] >>= fun a => Res.ok (D.int 0) >>= fun b => oidx a b) = _
      rw [hdd, bind_ok, bind_ok]
      exact deed_name X
    have hb2 : tst (bin oeq (bin oidx (bin oidx (un (oattr ["Builder"] "deeds") (var 0)) (bin osub (var 1) (un (oattr ["Builder"] "inputs") (var 0)))) (cst (.int 0))) (cst (.str "not"))) [some (bD n u.2), some (nD i)] = .ok (X.name == "not") := by
      show ((bin oidx (bin oidx (un (oattr ["Builder"] "deeds") (var 0)) (bin osub (var 1) (un (oattr ["Builder"] "inputs") (var 0)))) (cst (.int 0)) [some (bD n u.2), some (nD i)] >>= fun a => Res.ok (D.str "not") >>= fun b => oeq a b) >>= truthy) = _
      rw [hnm, bind_ok, bind_ok, str_eq]
      rfl
    cases hN : (X.name == "not") with
    | false =>
      refine put ?_
      unfold andT
      rw [ht1, bind_ok, if_pos rfl, hb2, hN]
    | true =>
      cases X with
      | inv a =>
        have ha : a < n + (i - n) := hrow
        have hret : bin oidx (bin oidx (un (oattr ["Builder"] "deeds") (var 0)) (bin osub (var 1) (un (oattr ["Builder"] "inputs") (var 0)))) (cst (.int 1)) [some (bD n u.2), some (nD i)] = .ok (nD a) := by
          show (bin oidx (un (oattr ["Builder"] "deeds") (var 0)) (bin osub (var 1) (un (oattr ["Builder"] "inputs") (var 0))) [some (bD n u.2), some (nD i)] >>= fun a => Res.ok (D.int 1) >>= fun b => oidx a b) = _
          rw [hdd, bind_ok, bind_ok]
          exact ixt1
        refine ⟨(a, u.2), hB _ ((passX t1).trans ((passX t2).trans (hit ?_ (retL_ok (upX_ok hret) rfl)))), (zu.ret (by show a < n + u.2.length; omega) fun ms bs g g1 e1 o => ?_).up (by omega)⟩
        · unfold andT
          rw [ht1, bind_ok, if_pos rfl, hb2, hN]
        · have h5 := hval ms bs g1 rfl
          have h6 : vl ms bs u.2 i = 1 - vl ms bs u.2 a := by
            rw [show n + (i - n) = i by omega] at h5
            exact h5
          have h7 := o i hi
          have h8 := g1.v01 a
          show vl ms bs u.2 a = 1 - vl ms bs s i
          omega
      | _ => simp [Deed.name] at hN
  · refine put ?_
    unfold andT tst
    rw [q1, decide_eq_false h3]
    rfl
end
end Py.U
namespace Py.U
open PySem
section
variable {n : Nat} {s : List Deed}
theorem min_n (i j : Nat) : bmin2 (nD i) (nD j) = .ok (nD (min i j)) := by
  show Res.ok (D.int (if (j : Int) < (i : Int) then (j : Int) else (i : Int))) = Res.ok (D.int ((min i j : Nat) : Int))
  congr 2
  split <;> omega
theorem max_n (i j : Nat) : bmax2 (nD i) (nD j) = .ok (nD (max i j)) := by
  show Res.ok (D.int (if (i : Int) < (j : Int) then (j : Int) else (i : Int))) = Res.ok (D.int ((max i j : Nat) : Int))
  congr 2
  split <;> omega
theorem both_ok (hr : Row n s) (hz : s.length + 19 < PMS) {i j : Nat} (hi : i < n + s.length) (hj : j < n + s.length) : Made n s (m_Builder_both_of [bD n s, nD i, nD j]) (fun w => if w i + w j = 2 then 1 else 0) 9 := by
  have hB : ∀ d, b_Builder_both_of [some (bD n s), some (nD i), some (nD j)] = .ok (.ret d) → m_Builder_both_of [bD n s, nD i, nD j] = .ok d := fun d h => fnL_ok rfl h
  have c0 : tst (bin oeq (var 1) (var 2)) [some (bD n s), some (nD i), some (nD j)] = .ok (decide (i = j)) := by
    show ((var 1 [some (bD n s), some (nD i), some (nD j)] >>= fun a => var 2 [some (bD n s), some (nD i), some (nD j)] >>= fun b => oeq a b) >>= truthy) = _
    rw [var_at (d := nD i) rfl, bind_ok, var_at (d := nD j) rfl, bind_ok, nat_eq]
    rfl
  by_cases h0 : i = j
  · refine ⟨(i, s), hB _ (hitX (orX_t (upT_ok (c0.trans (by rw [decide_eq_true h0])))) (retL_ok (upX_ok rfl) rfl)), ((Op.same hr hi).ret hi fun ms bs g _ _ _ => ?_).up (by omega)⟩
    have := g.v01 i
    show vl ms bs s i = _
    rw [← h0]
    rcases this with e | e <;> rw [e] <;> rfl
  obtain ⟨r1, q1, o1⟩ := lend_ones (i := 0) (e := [some (bD n s), some (nD i), some (nD j)]) hr (by omega) rfl
  have l1 := o1.len
  have c1 := xeq_ok (a := upX (var 2)) (upX_ok rfl) q1
  by_cases h1 : j = r1.1
  · refine ⟨(i, r1.2), hB _ (hitX ((orX_f (upT_ok (c0.trans (by rw [decide_eq_false h0])))).trans (c1.trans (by rw [decide_eq_true h1]; try rfl))) (retL_ok (upX_ok rfl) rfl)), (o1.ret (by show i < n + r1.2.length; omega) fun ms bs g g1 e o => ?_).up (by omega)⟩
    have a1 := g.v01 i
    have a2 := o i hi
    have a3 := o j hj
    rw [← h1] at e
    show vl ms bs r1.2 i = _
    rw [a2]
    rw [a3] at e
    rw [e]
    rcases a1 with e | e <;> rw [e] <;> rfl
  have p1 : orX (upT (tst (bin oeq (var 1) (var 2)))) (tstX (binX oeq (upX (var 2)) (lendM "Builder" "ones" 0 m_Builder_ones xaN))) [some (bD n s), some (nD i), some (nD j)] = .ok (false, [some (bD n r1.2), some (nD i), some (nD j)]) := (orX_f (upT_ok (c0.trans (by rw [decide_eq_false h0])))).trans (c1.trans (by rw [decide_eq_false h1]; try rfl))
  obtain ⟨r2, q2, x2⟩ := lend_ones (i := 0) (e := [some (bD n r1.2), some (nD i), some (nD j)]) o1.row (by omega) rfl
  have o2 : Op n s r2 (fun _ => 1) 2 := o1.trans x2 fun _ _ _ _ _ _ => rfl
  have l2 := o2.len
  have c2 := xeq_ok (a := upX (var 1)) (upX_ok rfl) q2
  by_cases h2 : i = r2.1
  · refine ⟨(j, r2.2), hB _ ((passX p1).trans (hitX (c2.trans (by rw [decide_eq_true h2]; try rfl)) (retL_ok (upX_ok rfl) rfl))), (o2.ret (by show j < n + r2.2.length; omega) fun ms bs g g1 e o => ?_).up (by omega)⟩
    have a1 := g.v01 j
    have a2 := o i hi
    have a3 := o j hj
    rw [← h2] at e
    show vl ms bs r2.2 j = _
    rw [a3]
    rw [a2] at e
    rw [e]
    rcases a1 with e | e <;> rw [e] <;> rfl
  have p2 : tstX (binX oeq (upX (var 1)) (lendM "Builder" "ones" 0 m_Builder_ones xaN)) [some (bD n r1.2), some (nD i), some (nD j)] = .ok (false, [some (bD n r2.2), some (nD i), some (nD j)]) := c2.trans (by rw [decide_eq_false h2]; try rfl)
  obtain ⟨r3, q3, x3⟩ := lend_zero (i := 0) (e := [some (bD n r2.2), some (nD i), some (nD j)]) o2.row (by omega) rfl
  have o3 : Op n s r3 (fun _ => 0) 3 := o2.trans x3 fun _ _ _ _ _ _ => rfl
  have l3 := o3.len
  have c3 := xeq_ok (a := upX (var 1)) (upX_ok rfl) q3
  have fin : ∀ {r : BS} {v : (Nat → Nat) → Nat} {k : Nat} {t : XT}, Op n s r v k → k ≤ 8 → (hv : ∀ w w' : Nat → Nat, (∀ i, i < n + s.length → w' i = w i) → (∀ i, w i = 0 ∨ w i = 1) → (∀ i, w' i = 0 ∨ w' i = 1) → w' r.1 = v w → 0 = if w i + w j = 2 then 1 else 0) →
      (∀ e, t e = orX (tstX (binX oeq (upX (var 1)) (lendM "Builder" "zero" 0 m_Builder_zero xaN))) (orX (tstX (binX oeq (upX (var 2)) (lendM "Builder" "zero" 0 m_Builder_zero xaN))) (tstX (binX oeq (upX (var 1)) (lendM "Builder" "opposite" 0 m_Builder_opposite (xaC (upX (var 2)) xaN))))) e) →
      t [some (bD n r2.2), some (nD i), some (nD j)] = .ok (true, [some (bD n r.2), some (nD i), some (nD j)]) → Made n s (m_Builder_both_of [bD n s, nD i, nD j]) (fun w => if w i + w j = 2 then 1 else 0) 9 := fun {r v k t} o hk hv ht h => by
    have lo := o.len
    obtain ⟨r', q', x'⟩ := lend_zero (i := 0) (e := [some (bD n r.2), some (nD i), some (nD j)]) o.row (by omega) rfl
    rw [ht] at h
    exact ⟨r', hB _ ((passX p1).trans ((passX p2).trans (hitX h (retL_ok q' rfl)))), (o.trans x' hv).up (by omega)⟩
  by_cases h3 : i = r3.1
  · refine fin o3 (by omega) (fun w w' o b _ e => ?_) (fun _ => rfl) (orX_t (c3.trans (by rw [decide_eq_true h3]; try rfl)))
    rw [← h3, o i hi] at e
    have a1 := b j
    rw [e]
    rcases a1 with e | e <;> rw [e] <;> rfl
  have p3 := (c3.trans (by rw [decide_eq_false h3]; try rfl) : tstX (binX oeq (upX (var 1)) (lendM "Builder" "zero" 0 m_Builder_zero xaN)) [some (bD n r2.2), some (nD i), some (nD j)] = .ok (false, [some (bD n r3.2), some (nD i), some (nD j)]))
  obtain ⟨r4, q4, x4⟩ := lend_zero (i := 0) (e := [some (bD n r3.2), some (nD i), some (nD j)]) o3.row (by omega) rfl
  have o4 : Op n s r4 (fun _ => 0) 4 := o3.trans x4 fun _ _ _ _ _ _ => rfl
  have l4 := o4.len
  have c4 := xeq_ok (a := upX (var 2)) (upX_ok rfl) q4
  by_cases h4 : j = r4.1
  · refine fin o4 (by omega) (fun w w' o b _ e => ?_) (fun _ => rfl) ((orX_f p3).trans (orX_t (c4.trans (by rw [decide_eq_true h4]; try rfl))))
    rw [← h4, o j hj] at e
    have a1 := b i
    rw [e]
    rcases a1 with e | e <;> rw [e] <;> rfl
  have p4 := (c4.trans (by rw [decide_eq_false h4]; try rfl) : tstX (binX oeq (upX (var 2)) (lendM "Builder" "zero" 0 m_Builder_zero xaN)) [some (bD n r3.2), some (nD i), some (nD j)] = .ok (false, [some (bD n r4.2), some (nD i), some (nD j)]))
  obtain ⟨r5, q5, x5⟩ := opp_ok (i := j) o4.row (by omega) (by omega)
  have o5 : Op n s r5 (fun w => 1 - w j) 7 := o4.trans x5 fun w w' o _ _ _ => by rw [o j hj]
  have l5 := o5.len
  have c5 := xeq_ok (a := upX (var 1)) (e := [some (bD n r4.2), some (nD i), some (nD j)]) (upX_ok rfl) (bl_look (m := "opposite") (i := 0) rfl rfl (xaC_ok (upX_ok (m := var 2) rfl) xaN_ok) rfl q5)
  by_cases h5 : i = r5.1
  · refine fin o5 (by omega) (fun w w' o b _ e => ?_) (fun _ => rfl) ((orX_f p3).trans ((orX_f p4).trans (c5.trans (by rw [decide_eq_true h5]; try rfl))))
    rw [← h5, o i hi] at e
    have a1 := b j
    rw [e]
    rcases a1 with e | e <;> rw [e] <;> rfl
  have p5 := (c5.trans (by rw [decide_eq_false h5]; try rfl) : tstX (binX oeq (upX (var 1)) (lendM "Builder" "opposite" 0 m_Builder_opposite (xaC (upX (var 2)) xaN))) [some (bD n r4.2), some (nD i), some (nD j)] = .ok (false, [some (bD n r5.2), some (nD i), some (nD j)]))
  have put := put_ok (n := n) (s := r5.2) (by omega) (.and (min i j) (max i j))
  have hm : tupE (argC (cst (.str "and")) (argC (bin bmin2 (var 1) (var 2)) (argC (bin bmax2 (var 1) (var 2)) argN))) [some (bD n r5.2), some (nD i), some (nD j)] = .ok (Deed.and (min i j) (max i j)).d := by
    have m1 : bin bmin2 (var 1) (var 2) [some (bD n r5.2), some (nD i), some (nD j)] = .ok (nD (min i j)) := min_n i j
    have m2 : bin bmax2 (var 1) (var 2) [some (bD n r5.2), some (nD i), some (nD j)] = .ok (nD (max i j)) := max_n i j
    unfold tupE argC
    rw [m1]
    rw [m2]
    rfl
  refine ⟨mPut n (.and (min i j) (max i j)) r5.2, hB _ ((passX p1).trans ((passX p2).trans ((passX ((orX_f p3).trans ((orX_f p4).trans p5))).trans (retL_ok (bl_look rfl rfl (xaC_ok (upX_ok hm) xaN_ok) rfl put) rfl)))), (o5.trans (put_op (x := .and (min i j) (max i j)) (v := fun w => if w (min i j) + w (max i j) = 2 then 1 else 0) o5.row rfl ⟨by omega, by omega⟩ fun _ _ => rfl) fun w w' o _ _ _ => ?_).up (by omega)⟩
  have a1 := o i hi
  have a2 := o j hj
  by_cases q : i ≤ j
  · rw [Nat.min_eq_left q, Nat.max_eq_right q, a1, a2]
  · rw [Nat.min_eq_right (by omega), Nat.max_eq_left (by omega), a1, a2, Nat.add_comm]
theorem either_ok (hr : Row n s) (hz : s.length + 19 < PMS) {i j : Nat} (hi : i < n + s.length) (hj : j < n + s.length) : Made n s (m_Builder_either_of [bD n s, nD i, nD j]) (fun w => if 0 < w i + w j then 1 else 0) 9 := by
  have hB : ∀ d, b_Builder_either_of [some (bD n s), some (nD i), some (nD j)] = .ok (.ret d) → m_Builder_either_of [bD n s, nD i, nD j] = .ok d := fun d h => fnL_ok rfl h
  have c0 : tst (bin oeq (var 1) (var 2)) [some (bD n s), some (nD i), some (nD j)] = .ok (decide (i = j)) := by
    show ((var 1 [some (bD n s), some (nD i), some (nD j)] >>= fun a => var 2 [some (bD n s), some (nD i), some (nD j)] >>= fun b => oeq a b) >>= truthy) = _
    rw [var_at (d := nD i) rfl, bind_ok, var_at (d := nD j) rfl, bind_ok, nat_eq]
    rfl
  by_cases h0 : i = j
  · refine ⟨(i, s), hB _ (hitX (orX_t (upT_ok (c0.trans (by rw [decide_eq_true h0])))) (retL_ok (upX_ok rfl) rfl)), ((Op.same hr hi).ret hi fun ms bs g _ _ _ => ?_).up (by omega)⟩
    have := g.v01 i
    show vl ms bs s i = _
    rw [← h0]
    rcases this with e | e <;> rw [e] <;> rfl
  obtain ⟨r1, q1, o1⟩ := lend_zero (i := 0) (e := [some (bD n s), some (nD i), some (nD j)]) hr (by omega) rfl
  have l1 := o1.len
  have c1 := xeq_ok (a := upX (var 2)) (upX_ok rfl) q1
  by_cases h1 : j = r1.1
  · refine ⟨(i, r1.2), hB _ (hitX ((orX_f (upT_ok (c0.trans (by rw [decide_eq_false h0])))).trans (c1.trans (by rw [decide_eq_true h1]; try rfl))) (retL_ok (upX_ok rfl) rfl)), (o1.ret (by show i < n + r1.2.length; omega) fun ms bs g g1 e o => ?_).up (by omega)⟩
    have a1 := g.v01 i
    have a2 := o i hi
    have a3 := o j hj
    rw [← h1] at e
    show vl ms bs r1.2 i = _
    rw [a2]
    rw [a3] at e
    rw [e]
    rcases a1 with e | e <;> rw [e] <;> rfl
  have p1 : orX (upT (tst (bin oeq (var 1) (var 2)))) (tstX (binX oeq (upX (var 2)) (lendM "Builder" "zero" 0 m_Builder_zero xaN))) [some (bD n s), some (nD i), some (nD j)] = .ok (false, [some (bD n r1.2), some (nD i), some (nD j)]) := (orX_f (upT_ok (c0.trans (by rw [decide_eq_false h0])))).trans (c1.trans (by rw [decide_eq_false h1]; try rfl))
  obtain ⟨r2, q2, x2⟩ := lend_zero (i := 0) (e := [some (bD n r1.2), some (nD i), some (nD j)]) o1.row (by omega) rfl
  have o2 : Op n s r2 (fun _ => 0) 2 := o1.trans x2 fun _ _ _ _ _ _ => rfl
  have l2 := o2.len
  have c2 := xeq_ok (a := upX (var 1)) (upX_ok rfl) q2
  by_cases h2 : i = r2.1
  · refine ⟨(j, r2.2), hB _ ((passX p1).trans (hitX (c2.trans (by rw [decide_eq_true h2]; try rfl)) (retL_ok (upX_ok rfl) rfl))), (o2.ret (by show j < n + r2.2.length; omega) fun ms bs g g1 e o => ?_).up (by omega)⟩
    have a1 := g.v01 j
    have a2 := o i hi
    have a3 := o j hj
    rw [← h2] at e
    show vl ms bs r2.2 j = _
    rw [a3]
    rw [a2] at e
    rw [e]
    rcases a1 with e | e <;> rw [e] <;> rfl
  have p2 : tstX (binX oeq (upX (var 1)) (lendM "Builder" "zero" 0 m_Builder_zero xaN)) [some (bD n r1.2), some (nD i), some (nD j)] = .ok (false, [some (bD n r2.2), some (nD i), some (nD j)]) := c2.trans (by rw [decide_eq_false h2]; try rfl)
  obtain ⟨r3, q3, x3⟩ := lend_ones (i := 0) (e := [some (bD n r2.2), some (nD i), some (nD j)]) o2.row (by omega) rfl
  have o3 : Op n s r3 (fun _ => 1) 3 := o2.trans x3 fun _ _ _ _ _ _ => rfl
  have l3 := o3.len
  have c3 := xeq_ok (a := upX (var 1)) (upX_ok rfl) q3
  have fin : ∀ {r : BS} {v : (Nat → Nat) → Nat} {k : Nat} {t : XT}, Op n s r v k → k ≤ 8 → (hv : ∀ w w' : Nat → Nat, (∀ i, i < n + s.length → w' i = w i) → (∀ i, w i = 0 ∨ w i = 1) → (∀ i, w' i = 0 ∨ w' i = 1) → w' r.1 = v w → 1 = if 0 < w i + w j then 1 else 0) →
      (∀ e, t e = orX (tstX (binX oeq (upX (var 1)) (lendM "Builder" "ones" 0 m_Builder_ones xaN))) (orX (tstX (binX oeq (upX (var 2)) (lendM "Builder" "ones" 0 m_Builder_ones xaN))) (tstX (binX oeq (upX (var 1)) (lendM "Builder" "opposite" 0 m_Builder_opposite (xaC (upX (var 2)) xaN))))) e) →
      t [some (bD n r2.2), some (nD i), some (nD j)] = .ok (true, [some (bD n r.2), some (nD i), some (nD j)]) → Made n s (m_Builder_either_of [bD n s, nD i, nD j]) (fun w => if 0 < w i + w j then 1 else 0) 9 := fun {r v k t} o hk hv ht h => by
    have lo := o.len
    obtain ⟨r', q', x'⟩ := lend_ones (i := 0) (e := [some (bD n r.2), some (nD i), some (nD j)]) o.row (by omega) rfl
    rw [ht] at h
    exact ⟨r', hB _ ((passX p1).trans ((passX p2).trans (hitX h (retL_ok q' rfl)))), (o.trans x' hv).up (by omega)⟩
  by_cases h3 : i = r3.1
  · refine fin o3 (by omega) (fun w w' o b _ e => ?_) (fun _ => rfl) (orX_t (c3.trans (by rw [decide_eq_true h3]; try rfl)))
    rw [← h3, o i hi] at e
    have a1 := b j
    rw [e]
    rcases a1 with e | e <;> rw [e] <;> rfl
  have p3 := (c3.trans (by rw [decide_eq_false h3]; try rfl) : tstX (binX oeq (upX (var 1)) (lendM "Builder" "ones" 0 m_Builder_ones xaN)) [some (bD n r2.2), some (nD i), some (nD j)] = .ok (false, [some (bD n r3.2), some (nD i), some (nD j)]))
  obtain ⟨r4, q4, x4⟩ := lend_ones (i := 0) (e := [some (bD n r3.2), some (nD i), some (nD j)]) o3.row (by omega) rfl
  have o4 : Op n s r4 (fun _ => 1) 4 := o3.trans x4 fun _ _ _ _ _ _ => rfl
  have l4 := o4.len
  have c4 := xeq_ok (a := upX (var 2)) (upX_ok rfl) q4
  by_cases h4 : j = r4.1
  · refine fin o4 (by omega) (fun w w' o b _ e => ?_) (fun _ => rfl) ((orX_f p3).trans (orX_t (c4.trans (by rw [decide_eq_true h4]; try rfl))))
    rw [← h4, o j hj] at e
    have a1 := b i
    rw [e]
    rcases a1 with e | e <;> rw [e] <;> rfl
  have p4 := (c4.trans (by rw [decide_eq_false h4]; try rfl) : tstX (binX oeq (upX (var 2)) (lendM "Builder" "ones" 0 m_Builder_ones xaN)) [some (bD n r3.2), some (nD i), some (nD j)] = .ok (false, [some (bD n r4.2), some (nD i), some (nD j)]))
  obtain ⟨r5, q5, x5⟩ := opp_ok (i := j) o4.row (by omega) (by omega)
  have o5 : Op n s r5 (fun w => 1 - w j) 7 := o4.trans x5 fun w w' o _ _ _ => by rw [o j hj]
  have l5 := o5.len
  have c5 := xeq_ok (a := upX (var 1)) (e := [some (bD n r4.2), some (nD i), some (nD j)]) (upX_ok rfl) (bl_look (m := "opposite") (i := 0) rfl rfl (xaC_ok (upX_ok (m := var 2) rfl) xaN_ok) rfl q5)
  by_cases h5 : i = r5.1
  · refine fin o5 (by omega) (fun w w' o b _ e => ?_) (fun _ => rfl) ((orX_f p3).trans ((orX_f p4).trans (c5.trans (by rw [decide_eq_true h5]; try rfl))))
    rw [← h5, o i hi] at e
    have a1 := b j
    rw [e]
    rcases a1 with e | e <;> rw [e] <;> rfl
  have p5 := (c5.trans (by rw [decide_eq_false h5]; try rfl) : tstX (binX oeq (upX (var 1)) (lendM "Builder" "opposite" 0 m_Builder_opposite (xaC (upX (var 2)) xaN))) [some (bD n r4.2), some (nD i), some (nD j)] = .ok (false, [some (bD n r5.2), some (nD i), some (nD j)]))
  have put := put_ok (n := n) (s := r5.2) (by omega) (.or (min i j) (max i j))
  have hm : tupE (argC (cst (.str "or")) (argC (bin bmin2 (var 1) (var 2)) (argC (bin bmax2 (var 1) (var 2)) argN))) [some (bD n r5.2), some (nD i), some (nD j)] = .ok (Deed.or (min i j) (max i j)).d := by
    have m1 : bin bmin2 (var 1) (var 2) [some (bD n r5.2), some (nD i), some (nD j)] = .ok (nD (min i j)) := min_n i j
    have m2 : bin bmax2 (var 1) (var 2) [some (bD n r5.2), some (nD i), some (nD j)] = .ok (nD (max i j)) := max_n i j
    unfold tupE argC
    rw [m1]
    rw [m2]
    rfl
  refine ⟨mPut n (.or (min i j) (max i j)) r5.2, hB _ ((passX p1).trans ((passX p2).trans ((passX ((orX_f p3).trans ((orX_f p4).trans p5))).trans (retL_ok (bl_look rfl rfl (xaC_ok (upX_ok hm) xaN_ok) rfl put) rfl)))), (o5.trans (put_op (x := .or (min i j) (max i j)) (v := fun w => if 0 < w (min i j) + w (max i j) then 1 else 0) o5.row rfl ⟨by omega, by omega⟩ fun _ _ => rfl) fun w w' o _ _ _ => ?_).up (by omega)⟩
  have a1 := o i hi
  have a2 := o j hj
  by_cases q : i ≤ j
  · rw [Nat.min_eq_left q, Nat.max_eq_right q, a1, a2]
  · rw [Nat.min_eq_right (by omega), Nat.max_eq_left (by omega), a1, a2, Nat.add_comm]
end
end Py.U
namespace Py.U
open PySem
section
variable {n : Nat} {s : List Deed}
/-! ### all_of -/
def allB (w : Nat → Nat) (vs : List Nat) : Bool := vs.all fun a => w a == 1
theorem asgX_ok {i : Nat} {m : XM} {e e1 : Env} {d : D} (h : m e = .ok (d, e1)) : asgX (gnm i) m e = .ok (.next (e1.set i (some d))) := by
  unfold asgX
  rw [h]
  rfl
def aoB : SM := (asgX (gnm 2) (lendM "Builder" "both_of" 0 m_Builder_both_of (xaC (upX (var 2)) (xaC (upX (var 3)) xaN))))
theorem ao_loop {L : D} : ∀ (vs : List Nat) (s : List Deed) (m : Nat) (o3 : Option D), Row n s → s.length + 9 * vs.length + 19 < PMS → m < n + s.length → (∀ a ∈ vs, a < n + s.length) →
    ∃ r o3', forL (forB (gnm 3) aoB) (vs.map nD) [some (bD n s), some L, some (nD m), o3] = .ok (.next [some (bD n r.2), some L, some (nD r.1), o3']) ∧ Op n s r (fun w => if (w m == 1 && allB w vs) = true then 1 else 0) (9 * vs.length)
  | [], s, m, o3, hr, hz, hm, _ => ⟨(m, s), o3, rfl, (Op.same hr hm).ret hm fun ms bs g _ _ _ => by
      have := g.v01 m
      show vl ms bs s m = _
      rcases this with e | e <;> rw [e] <;> rfl⟩
  | a :: vs, s, m, o3, hr, hz, hm, hv => by
    simp only [List.length_cons] at hz
    obtain ⟨r1, q1, o1⟩ := both_ok hr (by omega) hm (hv a List.mem_cons_self)
    have l1 := o1.len
    obtain ⟨r, o3', q, o⟩ := ao_loop (L := L) vs r1.2 r1.1 (some (nD a)) o1.row (by omega) o1.lt fun b hb => Nat.lt_of_lt_of_le (hv b (List.mem_cons_of_mem _ hb)) (by omega)
    have e1 : forB (gnm 3) aoB (nD a) [some (bD n s), some L, some (nD m), o3] = .ok (.next [some (bD n r1.2), some L, some (nD r1.1), some (nD a)]) := by
      show aoB [some (bD n s), some L, some (nD m), some (nD a)] = _
      exact asgX_ok (bl_look rfl rfl (xaC_ok (upX_ok rfl) (xaC_ok (upX_ok rfl) xaN_ok)) rfl q1)
    refine ⟨r, o3', ?_, (o1.trans o fun w w' ol b b' e => ?_).up (by simp only [List.length_cons]; omega)⟩
    · simp only [List.map_cons, forL]
      rw [e1]
      exact q
    · have e2 : allB w' vs = allB w vs := by
        unfold allB
        rw [Bool.eq_iff_iff, List.all_eq_true, List.all_eq_true]
        exact ⟨fun h x hx => by rw [← ol x (hv x (List.mem_cons_of_mem _ hx))]; exact h x hx, fun h x hx => by rw [ol x (hv x (List.mem_cons_of_mem _ hx))]; exact h x hx⟩
      rw [e2, e]
      show (if _ = true then 1 else 0) = if (w m == 1 && (w a == 1 && allB w vs)) = true then 1 else 0
      rcases b m with x | x <;> rcases b a with y | y <;> rw [x, y] <;> cases allB w vs <;> rfl
theorem all_ok (hr : Row n s) {vs : List Nat} (hz : s.length + 9 * vs.length + 29 < PMS) (hv : ∀ a ∈ vs, a < n + s.length) : Made n s (m_Builder_all_of [bD n s, .lst (vs.map nD)]) (fun w => if allB w vs = true then 1 else 0) (1 + 9 * vs.length) := by
  obtain ⟨r1, q1, o1⟩ := lend_ones (i := 0) (e := [some (bD n s), some (.lst (vs.map nD)), none, none]) hr (by omega) rfl
  have l1 := o1.len
  obtain ⟨r, o3, q, o⟩ := ao_loop (L := .lst (vs.map nD)) vs r1.2 r1.1 none o1.row (by omega) o1.lt fun b hb => Nat.lt_of_lt_of_le (hv b hb) (by omega)
  refine ⟨r, fnL_ok rfl ((seq_next (asgX_ok q1)).trans ((for_pass (xs := vs.map nD) rfl q).trans (retL_ok (upX_ok rfl) rfl))), o1.trans o fun w w' ol b b' e => ?_⟩
  have e2 : allB w' vs = allB w vs := by
    unfold allB
    rw [Bool.eq_iff_iff, List.all_eq_true, List.all_eq_true]
    exact ⟨fun h x hx => by rw [← ol x (hv x hx)]; exact h x hx, fun h x hx => by rw [ol x (hv x hx)]; exact h x hx⟩
  rw [e2, e]
  cases allB w vs <;> rfl
/-! ### letter_word -/
def bitx (x i : Nat) : Nat := x / 2 ^ i % 2
def elB : XM := (ifX (upT (tst (bin oand (bin oshr (var 1) (var 2)) (cst (.int 1))))) (upX (var 2)) (lendM "Builder" "opposite" 0 m_Builder_opposite (xaC (upX (var 2)) xaN)))
theorem el_ok (hr : Row n s) (hz : s.length + 9 < PMS) {x i : Nat} (hi : i < n + s.length) : ∃ r, elB [some (bD n s), some (nD x), some (nD i)] = .ok (nD r.1, [some (bD n r.2), some (nD x), some (nD i)]) ∧ Op n s r (fun w => if w i = bitx x i then 1 else 0) 3 := by
  have ht : tst (bin oand (bin oshr (var 1) (var 2)) (cst (.int 1))) [some (bD n s), some (nD x), some (nD i)] = .ok (bitx x i != 0) := by
    have h := bitN x i
    show (((var 1 [some (bD n s), some (nD x), some (nD i)] >>= fun a => var 2 [some (bD n s), some (nD x), some (nD i)] >>= fun b => oshr a b) >>= fun a => Res.ok (D.int 1) >>= fun b => oand a b) >>= truthy) = _
    rw [var_at (d := nD x) rfl, bind_ok, var_at (d := nD i) rfl, bind_ok]
    show ((oshr (nD x) (nD i) >>= fun a => oand a (.int 1)) >>= truthy) = _
    rw [h, bind_ok]
    show Res.ok _ = _
    unfold bitx
    have : x / 2 ^ i % 2 = 0 ∨ x / 2 ^ i % 2 = 1 := by omega
    rcases this with e | e <;> rw [e] <;> rfl
  have hb : bitx x i = 0 ∨ bitx x i = 1 := by unfold bitx; omega
  rcases hb with e | e
  · obtain ⟨r, q, o⟩ := opp_ok hr hz hi
    replace ht : tst (bin oand (bin oshr (var 1) (var 2)) (cst (.int 1))) [some (bD n s), some (nD x), some (nD i)] = .ok false := by rw [ht, e]; rfl
    refine ⟨r, ?_, ⟨o.row, o.pre, o.lt, fun ms bs g => ?_⟩⟩
    · unfold elB ifX
      rw [upT_ok ht, bind_ok, if_neg Bool.false_ne_true]
      exact bl_look rfl rfl (xaC_ok (upX_ok rfl) xaN_ok) rfl q
    · obtain ⟨g1, e1⟩ := o.sem ms bs g
      refine ⟨g1, e1.trans ?_⟩
      rw [e]
      rcases g.v01 i with y | y <;> rw [y] <;> rfl
  · replace ht : tst (bin oand (bin oshr (var 1) (var 2)) (cst (.int 1))) [some (bD n s), some (nD x), some (nD i)] = .ok true := by rw [ht, e]; rfl
    refine ⟨(i, s), ?_, ((Op.same hr hi).ret hi fun ms bs g _ _ _ => ?_).up (by omega)⟩
    · unfold elB ifX
      rw [upT_ok ht, bind_ok, if_pos rfl]
      exact upX_ok rfl
    · show vl ms bs s i = _
      rw [e]
      rcases g.v01 i with y | y <;> rw [y] <;> rfl
/-- numbers made one by one -/
structure OpL (n : Nat) (s : List Deed) (vs : List Nat) (s' : List Deed) (v : (Nat → Nat) → List Nat) (k : Nat) : Prop where
  row : Row n s'
  pre : ∃ t, s' = s ++ t ∧ (∀ x ∈ t, x.lg = true) ∧ t.length ≤ k
  lt : ∀ a ∈ vs, a < n + s'.length
  sem : ∀ ms bs, Good n ms bs s → Good n ms bs s' ∧ vs.map (vl ms bs s') = v (vl ms bs s)
theorem el_loop {x : Nat} : ∀ (xs : List Nat) (s : List Deed), Row n s → s.length + 3 * xs.length + 9 < PMS → (∀ i ∈ xs, i < n) →
    ∃ vs s', compLX (compFX [0] [2] (gnm 2) (upT yes) elB) (xs.map nD) [some (bD n s), some (nD x), none] = .ok (vs.map nD, [some (bD n s'), some (nD x), none]) ∧ vs.length = xs.length ∧ OpL n s vs s' (fun w => xs.map fun i => if w i = bitx x i then 1 else 0) (3 * xs.length)
  | [], s, hr, _, _ => ⟨[], s, rfl, rfl, hr, ⟨[], by simp, by simp, by simp⟩, by simp, fun ms bs g => ⟨g, rfl⟩⟩
  | i :: xs, s, hr, hz, hi => by
    simp only [List.length_cons] at hz
    have hin := hi i List.mem_cons_self
    obtain ⟨r, q1, o1⟩ := el_ok (x := x) hr (by omega) (i := i) (by omega)
    have l1 := o1.len
    obtain ⟨vs, s', q, hl, o⟩ := el_loop (x := x) xs r.2 o1.row (by omega) fun j hj => hi j (List.mem_cons_of_mem _ hj)
    obtain ⟨t1, e1, g1, z1⟩ := o1.pre
    obtain ⟨t2, e2, g2, z2⟩ := o.pre
    refine ⟨r.1 :: vs, s', ?_, by simp [hl], o.row, ⟨t1 ++ t2, by rw [e2, e1, List.append_assoc], fun y hy => (List.mem_append.mp hy).elim (g1 y) (g2 y), by simp only [List.length_append, List.length_cons]; omega⟩, fun a ha => ?_, fun ms bs g => ?_⟩
    · simp only [List.map_cons, compLX]
      have hF : compFX [0] [2] (gnm 2) (upT yes) elB (nD i) [some (bD n s), some (nD x), none] = .ok (some (nD r.1), [some (bD n r.2), some (nD x), none]) := by
        unfold compFX
        rw [show lift (gnm 2 (nD i) (wipe [some (bD n s), some (nD x), none] [2])) = .ok [some (bD n s), some (nD x), some (nD i)] from rfl, bind_ok, show upT yes [some (bD n s), some (nD x), some (nD i)] = .ok (true, [some (bD n s), some (nD x), some (nD i)]) from rfl, bind_ok, if_pos rfl, q1]
        rfl
      rw [hF, bind_ok]
      dsimp only
      rw [q]
      rfl
    · rcases List.mem_cons.mp ha with z | z
      · rw [z, e2]
        have := o1.lt
        simp only [List.length_append]
        omega
      · exact o.lt a z
    · obtain ⟨ga, va⟩ := o1.sem ms bs g
      obtain ⟨gb, vb⟩ := o.sem ms bs ga
      refine ⟨gb, ?_⟩
      simp only [List.map_cons]
      rw [vb, e2, vl_old g.l0 o1.lt, va]
      congr 1
      refine List.map_congr_left fun j hj => ?_
      rw [o1.old g.l0 (Nat.lt_of_lt_of_le (hi j (List.mem_cons_of_mem _ hj)) (Nat.le_add_right _ _))]
def letB (n x : Nat) (w : Nat → Nat) : Bool := (List.range n).all fun i => w i == bitx x i
theorem letter_ok (hr : Row n s) (h3 : n ≤ 3) {x : Nat} (hz : s.length + 99 < PMS) : Made n s (m_Builder_letter_word [bD n s, nD x]) (fun w => if letB n x w = true then 1 else 0) (1 + 12 * n) := by
  obtain ⟨vs, s', q, hl, o⟩ := el_loop (x := x) (List.range n) s hr (by rw [List.length_range]; omega) fun i hi => List.mem_range.mp hi
  rw [List.length_range] at hl
  obtain ⟨t1, e1, g1, z1⟩ := o.pre
  rw [List.length_range] at z1
  have ls : s'.length ≤ s.length + 3 * n := by rw [e1, List.length_append]; omega
  obtain ⟨r, q2, o2⟩ := all_ok o.row (vs := vs) (by omega) o.lt
  have hlc : lcX [0] (irng1 (un (oattr ["Builder"] "inputs") (var 0))) [2] (gnm 2) (upT yes) elB [some (bD n s), some (nD x), none] = .ok (.lst (vs.map nD), [some (bD n s'), some (nD x), none]) := by
    have hi : irng1 (un (oattr ["Builder"] "inputs") (var 0)) [some (bD n s), some (nD x), none] = .ok ((List.range n).map nD) := irng1_nat (n := n) rfl (Nat.lt_of_le_of_lt h3 (by decide))
    unfold lcX
    rw [hi, bind_ok, q]
    show (chk _ _ >>= _) = _
    unfold chk
    rw [if_pos (by rw [List.length_map, List.length_range]; exact Nat.le_trans h3 (by decide))]
    rfl
  obtain ⟨t2, e2, g2, z2⟩ := o2.pre
  refine ⟨r, fnL_ok rfl (retL_ok (bl_look (s1 := s') rfl rfl (xaC_ok hlc xaN_ok) rfl q2) rfl), o2.row, ⟨t1 ++ t2, by rw [e2, e1, List.append_assoc], fun y hy => (List.mem_append.mp hy).elim (g1 y) (g2 y), by rw [List.length_append]; omega⟩, o2.lt, fun ms bs g => ?_⟩
  obtain ⟨ga, va⟩ := o.sem ms bs g
  obtain ⟨gb, vb⟩ := o2.sem ms bs ga
  refine ⟨gb, vb.trans ?_⟩
  have e3 : allB (vl ms bs s') vs = letB n x (vl ms bs s) := by
    unfold allB letB
    have h1 : (vs.all fun a => vl ms bs s' a == 1) = (vs.map (vl ms bs s')).all fun b => b == 1 := by rw [List.all_map]; rfl
    rw [h1, va, List.all_map]
    congr 1
    funext i
    show ((if vl ms bs s i = bitx x i then 1 else 0) == 1) = _
    by_cases y : vl ms bs s i = bitx x i
    · rw [if_pos y, y]; simp
    · rw [if_neg y]; simp [y]
  rw [e3]
end
end Py.U
namespace Py.U
open PySem
section
variable {n : Nat} {s : List Deed}
/-! ### written_word -/
/-- a letter from k on, at which the line has a one, is the letter w -/
def hitB (n : Nat) (w : Nat → Nat) : Nat → List Nat → Bool
  | _, [] => false
  | k, b :: r => (b == 1 && letB n k w) || hitB n w (k + 1) r
theorem letB_old {x : Nat} {w w' : Nat → Nat} {N : Nat} (o : ∀ i, i < n + N → w' i = w i) : letB n x w' = letB n x w := by
  unfold letB
  rw [Bool.eq_iff_iff, List.all_eq_true, List.all_eq_true]
  exact ⟨fun h i hi => by rw [← o i (by have := List.mem_range.mp hi; omega)]; exact h i hi, fun h i hi => by rw [o i (by have := List.mem_range.mp hi; omega)]; exact h i hi⟩
theorem hitB_old {w w' : Nat → Nat} {N : Nat} (o : ∀ i, i < n + N → w' i = w i) : ∀ (r : List Nat) (k : Nat), hitB n w' k r = hitB n w k r
  | [], _ => rfl
  | b :: r, k => by
    simp only [hitB]
    rw [letB_old o, hitB_old o r (k + 1)]
abbrev wwE (n : Nat) (s : List Deed) (M WS : D) (m : Nat) (o4 : Option D) (o : Nat) (o6 o7 : Option D) : Env := [some (bD n s), some M, some WS, some (nD m), o4, some (nD o), o6, o7]
def wwB : SM := (Py.ite (tst (bin oeq (var 7) (cst (.int 1)))) (asgX (gnm 3) (lendM "Builder" "either_of" 0 m_Builder_either_of (xaC (upX (var 3)) (xaC (lendM "Builder" "both_of" 0 m_Builder_both_of (xaC (upX (var 5)) (xaC (lendM "Builder" "letter_word" 0 m_Builder_letter_word (xaC (upX (var 6)) xaN)) xaN))) xaN)))) skip)
theorem ww_loop (h3 : n ≤ 3) {M WS : D} {o : Nat} {o4 : Option D} : ∀ (r : List Nat) (k : Nat) (s : List Deed) (m : Nat) (o6 o7 : Option D), Row n s → s.length + 99 * r.length + 199 < PMS → m < n + s.length → o < n + s.length →
    ∃ q o6' o7', forL (forB (gtup [(gnm 6), (gnm 7)]) wwB) (enumL k (r.map nD)) (wwE n s M WS m o4 o o6 o7) = .ok (.next (wwE n q.2 M WS q.1 o4 o o6' o7')) ∧ Op n s q (fun w => if (w m == 1 || (w o == 1 && hitB n w k r)) = true then 1 else 0) (99 * r.length)
  | [], k, s, m, o6, o7, hr, hz, hm, _ => ⟨(m, s), o6, o7, rfl, (Op.same hr hm).ret hm fun ms bs g _ _ _ => by
      have := g.v01 m
      have h2 := g.v01 o
      show vl ms bs s m = _
      rcases this with e | e <;> rcases h2 with f | f <;> rw [e, f] <;> rfl⟩
  | b :: r, k, s, m, o6, o7, hr, hz, hm, ho => by
    simp only [List.length_cons] at hz
    have ht : ∀ s', tst (bin oeq (var 7) (cst (.int 1))) (wwE n s' M WS m o4 o (some (nD k)) (some (nD b))) = .ok (decide (b = 1)) := fun s' => by
      show ((var 7 (wwE n s' M WS m o4 o (some (nD k)) (some (nD b))) >>= fun a => Res.ok (D.int 1) >>= fun c => oeq a c) >>= truthy) = _
      rw [var_at (d := nD b) rfl, bind_ok, bind_ok, show D.int 1 = nD 1 from rfl, nat_eq]
      rfl
    have e0 : forB (gtup [(gnm 6), (gnm 7)]) wwB (.tup [.int (k : Int), nD b]) (wwE n s M WS m o4 o o6 o7) = wwB (wwE n s M WS m o4 o (some (nD k)) (some (nD b))) := rfl
    by_cases hb : b = 1
    · obtain ⟨r1, q1, o1⟩ := letter_ok (x := k) hr h3 (by omega)
      have l1 := o1.len
      obtain ⟨r2, q2, x2⟩ := both_ok (i := o) (j := r1.1) o1.row (by omega) (by omega) o1.lt
      have l2 := x2.len
      have o2 := o1.trans (v' := fun w => if (w o == 1 && letB n k w) = true then 1 else 0) x2 fun w w' ol b1 _ e => by
        rw [ol o ho, e]
        rcases b1 o with y | y <;> rw [y] <;> cases letB n k w <;> rfl
      obtain ⟨r3, q3, x3⟩ := either_ok (i := m) (j := r2.1) x2.row (by omega) (by omega) x2.lt
      have l3 := x3.len
      have o3 := o2.trans (v' := fun w => if (w m == 1 || (w o == 1 && letB n k w)) = true then 1 else 0) x3 fun w w' ol b1 _ e => by
        rw [ol m hm, e]
        rcases b1 m with y | y <;> rw [y] <;> cases (w o == 1 && letB n k w) <;> rfl
      obtain ⟨q, o6', o7', hq, oq⟩ := ww_loop h3 (M := M) (WS := WS) (o := o) (o4 := o4) r (k + 1) r3.2 r3.1 (some (nD k)) (some (nD b)) o3.row (by omega) o3.lt (by omega)
      refine ⟨q, o6', o7', ?_, (o3.trans oq fun w w' ol _ _ e => ?_).up (by simp only [List.length_cons]; omega)⟩
      · simp only [List.map_cons, enumL, forL]
        rw [e0]
        unfold wwB
        have he : asgX (gnm 3) (lendM "Builder" "either_of" 0 m_Builder_either_of (xaC (upX (var 3)) (xaC (lendM "Builder" "both_of" 0 m_Builder_both_of (xaC (upX (var 5)) (xaC (lendM "Builder" "letter_word" 0 m_Builder_letter_word (xaC (upX (var 6)) xaN)) xaN))) xaN))) (wwE n s M WS m o4 o (some (nD k)) (some (nD b))) = .ok (.next (wwE n r3.2 M WS r3.1 o4 o (some (nD k)) (some (nD b)))) :=
          asgX_ok (bl_look (s1 := r2.2) (e1 := wwE n r2.2 M WS m o4 o (some (nD k)) (some (nD b))) rfl rfl (xaC_ok (upX_ok rfl) (xaC_ok (bl_look (s1 := r1.2) (e1 := wwE n r1.2 M WS m o4 o (some (nD k)) (some (nD b))) rfl rfl (xaC_ok (upX_ok rfl) (xaC_ok (bl_look rfl rfl (xaC_ok (upX_ok rfl) xaN_ok) rfl q1) xaN_ok)) rfl q2) xaN_ok)) rfl q3)
        unfold Py.ite
        rw [ht s, decide_eq_true hb, bind_ok, if_pos rfl, he, bind_ok]
        exact hq
      · rw [e, ol o ho, hitB_old ol]
        show _ = if (w m == 1 || (w o == 1 && ((b == 1 && letB n k w) || hitB n w (k + 1) r))) = true then 1 else 0
        rw [hb]
        cases (w m == 1) <;> cases (w o == 1) <;> cases letB n k w <;> cases hitB n w (k + 1) r <;> rfl
    · obtain ⟨q, o6', o7', hq, oq⟩ := ww_loop h3 (M := M) (WS := WS) (o := o) (o4 := o4) r (k + 1) s m (some (nD k)) (some (nD b)) hr (by omega) hm ho
      refine ⟨q, o6', o7', ?_, ⟨oq.row, (oq.up (k' := 99 * (b :: r).length) (by simp only [List.length_cons]; omega)).pre, oq.lt, fun ms bs g => ?_⟩⟩
      · simp only [List.map_cons, enumL, forL]
        rw [e0]
        unfold wwB Py.ite
        rw [ht s, decide_eq_false hb, bind_ok, if_neg Bool.false_ne_true]
        exact hq
      · obtain ⟨ga, va⟩ := oq.sem ms bs g
        refine ⟨ga, va.trans ?_⟩
        have hb2 : (b == 1) = false := by simpa using hb
        simp only [hitB, hb2, Bool.false_and, Bool.false_or]
/-- the word made for the line r of a machine with one state -/
theorem written_ok (hr : Row n s) (h3 : n ≤ 3) {nx : D} {r : List Nat} {os : List D} {o : Nat} (hz : s.length + 99 * r.length + 299 < PMS) (ho : o < n + s.length) :
    Made n s (m_written_word [bD n s, .ins "Machine" [("inputs", nD n), ("nexts", nx), ("outs", .tup (rD r :: os))], .lst [nD o]]) (fun w => if (w o == 1 && hitB n w 0 r) = true then 1 else 0) (1 + 99 * r.length) := by
  generalize hM : D.ins "Machine" [("inputs", nD n), ("nexts", nx), ("outs", .tup (rD r :: os))] = M
  have hout : oattr ["Machine"] "outs" M = .ok (.tup (rD r :: os)) := by rw [← hM]; rfl
  obtain ⟨r1, q1, o1⟩ := lend_zero (i := 0) (e := [some (bD n s), some M, some (.lst [nD o]), none, none, none, none, none]) hr (by omega) rfl
  have l1 := o1.len
  obtain ⟨q, o6, o7, hq, oq⟩ := ww_loop h3 (M := M) (WS := .lst [nD o]) (o := o) (o4 := some (nD 0)) r 0 r1.2 r1.1 none none o1.row (by omega) o1.lt (by omega)
  have fe : ∀ it g b e, for_ it g b e = (it e >>= fun xs => forL (forB g b) xs e) := fun _ _ _ _ => rfl
  have hin : for_ (ienum (bin oidx (un (oattr ["Machine"] "outs") (var 1)) (var 4))) (gtup [(gnm 6), (gnm 7)]) wwB (wwE n r1.2 M (.lst [nD o]) r1.1 (some (nD 0)) o none none) = .ok (.next (wwE n q.2 M (.lst [nD o]) q.1 (some (nD 0)) o o6 o7)) := by
    have hi : ienum (bin oidx (un (oattr ["Machine"] "outs") (var 1)) (var 4)) (wwE n r1.2 M (.lst [nD o]) r1.1 (some (nD 0)) o none none) = .ok (enumL 0 (r.map nD)) := by
      have hbin : bin oidx (un (oattr ["Machine"] "outs") (var 1)) (var 4) (wwE n r1.2 M (.lst [nD o]) r1.1 (some (nD 0)) o none none) = .ok (rD r) := by
        show ((var 1 (wwE n r1.2 M (.lst [nD o]) r1.1 (some (nD 0)) o none none) >>= oattr ["Machine"] "outs") >>= fun a => var 4 (wwE n r1.2 M (.lst [nD o]) r1.1 (some (nD 0)) o none none) >>= fun b => oidx a b) = _
        rw [var_at (d := M) rfl, bind_ok, hout, bind_ok, var_at (d := nD 0) rfl, bind_ok]
        exact ixt0
      unfold ienum iseq
      rw [hbin, bind_ok]
      rfl
    rw [fe, hi, bind_ok]
    exact hq
  have hfor : for_ (ienum (var 2)) (gtup [(gnm 4), (gnm 5)]) (for_ (ienum (bin oidx (un (oattr ["Machine"] "outs") (var 1)) (var 4))) (gtup [(gnm 6), (gnm 7)]) wwB) [some (bD n r1.2), some M, some (.lst [nD o]), some (nD r1.1), none, none, none, none] = .ok (.next (wwE n q.2 M (.lst [nD o]) q.1 (some (nD 0)) o o6 o7)) := by
    rw [fe, show ienum (var 2) [some (bD n r1.2), some M, some (.lst [nD o]), some (nD r1.1), none, none, none, none] = .ok [.tup [nD 0, nD o]] from rfl, bind_ok]
    show (forL _ [.tup [nD 0, nD o]] _) = _
    simp only [forL]
    rw [show forB (gtup [(gnm 4), (gnm 5)]) (for_ (ienum (bin oidx (un (oattr ["Machine"] "outs") (var 1)) (var 4))) (gtup [(gnm 6), (gnm 7)]) wwB) (.tup [nD 0, nD o]) [some (bD n r1.2), some M, some (.lst [nD o]), some (nD r1.1), none, none, none, none] = for_ (ienum (bin oidx (un (oattr ["Machine"] "outs") (var 1)) (var 4))) (gtup [(gnm 6), (gnm 7)]) wwB (wwE n r1.2 M (.lst [nD o]) r1.1 (some (nD 0)) o none none) from rfl, hin]
    rfl
  refine ⟨q, fnL_ok rfl ((seq_next (asgX_ok q1)).trans ((seq_next hfor).trans (retL_ok (upX_ok rfl) rfl))), o1.trans oq fun w w' ol _ _ e => ?_⟩
  rw [e, ol o ho, hitB_old ol]
  rfl
end
end Py.U
namespace Py.U
open PySem
/-! ### the row that is left of the builder -/
theorem find_putN (j k : Nat) (v : D) : ∀ kvs : List (D × D), (∀ q ∈ kvs, ∃ a : Nat, q.1 = nD a) → find (nD j) (putD (nD k) v kvs) = if j = k then some v else find (nD j) kvs
  | [], _ => by
    simp only [putD, find, nD_eq]
    by_cases q : j = k
    · rw [if_pos q, decide_eq_true q.symm, if_pos rfl]
    · rw [if_neg q, decide_eq_false fun w => q w.symm, if_neg Bool.false_ne_true]
  | (d, x) :: r, h => by
    obtain ⟨a, rfl⟩ := h (d, x) List.mem_cons_self
    have ih := find_putN j k v r fun q hq => h q (List.mem_cons_of_mem _ hq)
    simp only [putD, nD_eq]
    by_cases q : a = k
    · subst q
      rw [decide_eq_true rfl, if_pos rfl]
      simp only [find, nD_eq]
      by_cases q2 : j = a
      · rw [if_pos q2, decide_eq_true q2.symm, if_pos rfl]
      · rw [if_neg q2, decide_eq_false fun w => q2 w.symm, if_neg Bool.false_ne_true, if_neg Bool.false_ne_true]
    · rw [decide_eq_false q, if_neg Bool.false_ne_true]
      simp only [find, nD_eq]
      by_cases q2 : a = j
      · subst q2
        rw [decide_eq_true rfl, if_pos rfl, if_pos rfl, if_neg q]
      · rw [decide_eq_false q2, if_neg Bool.false_ne_true, if_neg Bool.false_ne_true, ih]
abbrev NK (kvs : List (D × D)) : Prop := ∀ q ∈ kvs, ∃ a : Nat, q.1 = nD a
theorem put_NK {k : Nat} {v : D} : ∀ {kvs : List (D × D)}, NK kvs → NK (putD (nD k) v kvs)
  | [], _, q, hq => by
    rw [show q = (nD k, v) from List.mem_singleton.mp hq]
    exact ⟨k, rfl⟩
  | (d, x) :: r, h, q, hq => by
    simp only [putD] at hq
    split at hq
    · rcases List.mem_cons.mp hq with z | z
      · rw [z]
        exact h (d, x) List.mem_cons_self
      · exact h q (List.mem_cons_of_mem _ z)
    · rcases List.mem_cons.mp hq with z | z
      · rw [z]
        exact h (d, x) List.mem_cons_self
      · exact put_NK (fun q hq => h q (List.mem_cons_of_mem _ hq)) q z
def hasN (kvs : List (D × D)) (j : Nat) : Bool := (find (nD j) kvs).isSome
theorem has_put {j k : Nat} {v : D} {kvs : List (D × D)} (h : NK kvs) : hasN (putD (nD k) v kvs) j = (decide (j = k) || hasN kvs j) := by
  unfold hasN
  rw [find_putN j k v kvs h]
  by_cases q : j = k
  · rw [if_pos q, decide_eq_true q]; rfl
  · rw [if_neg q, decide_eq_false q]; rfl
theorem within_ok (x : Deed) : m_values_within [x.d] = .ok (.tup (x.nums.map nD)) := by cases x <;> rfl
/-- the deed with its values renamed -/
def Deed.ren (f : Nat → Nat) : Deed → Deed
  | .zero => .zero
  | .ones => .ones
  | .inv a => .inv (f a)
  | .and a b => .and (f a) (f b)
  | .or a b => .or (f a) (f b)
  | .xor a b => .xor (f a) (f b)
  | .shift a => .shift (f a)
  | .minus a => .minus (f a)
  | .add a b => .add (f a) (f b)
  | .sub a b => .sub (f a) (f b)
  | .count p r ps => .count p r (ps.map f)
theorem with_ok (x : Deed) (f : Nat → Nat) : m_with_values [x.d, .lst ((x.nums.map f).map nD)] = .ok (x.ren f).d := by cases x <;> rfl
theorem ren_ok {x : Deed} {N N' : Nat} {f : Nat → Nat} (hx : x.ok N) (hf : ∀ a ∈ x.nums, f a < N') : (x.ren f).ok N' := by
  cases x with
  | count p r ps =>
    obtain ⟨q1, q2, q3, q4, q5⟩ := hx
    refine ⟨q1, q2, by simpa using q3, by simpa using q4, fun a ha => ?_⟩
    obtain ⟨b, hb, rfl⟩ := List.mem_map.mp ha
    exact hf b hb
  | zero => trivial
  | ones => trivial
  | inv a => exact hf a (by simp [Deed.nums])
  | shift a => exact hf a (by simp [Deed.nums])
  | minus a => exact hf a (by simp [Deed.nums])
  | and a b => exact ⟨hf a (by simp [Deed.nums]), hf b (by simp [Deed.nums])⟩
  | or a b => exact ⟨hf a (by simp [Deed.nums]), hf b (by simp [Deed.nums])⟩
  | xor a b => exact ⟨hf a (by simp [Deed.nums]), hf b (by simp [Deed.nums])⟩
  | add a b => exact ⟨hf a (by simp [Deed.nums]), hf b (by simp [Deed.nums])⟩
  | sub a b => exact ⟨hf a (by simp [Deed.nums]), hf b (by simp [Deed.nums])⟩
theorem ren_bit0 {x : Deed} {f : Nat → Nat} {b c : List Nat} (h : ∀ a ∈ x.nums, at0 b (f a) = at0 c a) : (x.ren f).bit0 b = x.bit0 c := by
  cases x <;> first | rfl | (simp only [Deed.nums, List.mem_cons, List.not_mem_nil, or_false, forall_eq_or_imp, forall_eq] at h; simp only [Deed.ren, Deed.bit0, h])
theorem ren_lg (x : Deed) (f : Nat → Nat) : (x.ren f).lg = x.lg := by cases x <;> rfl
theorem nums4 {x : Deed} {N : Nat} (hx : x.ok N) : x.nums.length ≤ 4 := by
  cases x with
  | count p r ps => exact hx.2.2.2.1
  | _ => simp [Deed.nums]
abbrev rwE (B : D) (out : Nat) (kvs : List (D × D)) (o3 o4 : Option D) : Env := [some B, some (nD out), some (.dic false kvs), o3, o4, none, none, none, none, none]
theorem mark_loop {B : D} {out : Nat} {o3 : Option D} : ∀ (ps : List Nat) (kvs : List (D × D)) (o4 : Option D), NK kvs → kvs.length + ps.length < SZ →
    ∃ kvs' o4', forL (forB (gnm 4) (setL 2 (var 4) (cst (.bl true)))) (ps.map nD) (rwE B out kvs o3 o4) = .ok (.next (rwE B out kvs' o3 o4')) ∧ NK kvs' ∧ kvs'.length ≤ kvs.length + ps.length ∧ ∀ j, hasN kvs' j = (decide (j ∈ ps) || hasN kvs j)
  | [], kvs, o4, h, _ => ⟨kvs, o4, rfl, h, Nat.le_refl _, fun j => by simp⟩
  | a :: ps, kvs, o4, h, hz => by
    simp only [List.length_cons] at hz
    have hl := putD_len (nD a) (.bl true) kvs
    obtain ⟨kvs', o4', q, n', l', z⟩ := mark_loop (B := B) (out := out) (o3 := o3) ps (putD (nD a) (.bl true) kvs) (some (nD a)) (put_NK h) (by omega)
    refine ⟨kvs', o4', ?_, n', by simp only [List.length_cons]; omega, fun j => ?_⟩
    · simp only [List.map_cons, forL]
      have e : forB (gnm 4) (setL 2 (var 4) (cst (.bl true))) (nD a) (rwE B out kvs o3 o4) = .ok (.next (rwE B out (putD (nD a) (.bl true) kvs) o3 (some (nD a)))) := by
        show setL 2 (var 4) (cst (.bl true)) (rwE B out kvs o3 (some (nD a))) = _
        rw [setL_dic (t := false) (kvs := kvs) (k := nD a) (d := .bl true) rfl rfl rfl rfl (by omega)]
        rfl
      rw [e]
      exact q
    · rw [z, has_put h]
      simp only [List.mem_cons]
      by_cases q1 : j = a <;> by_cases q2 : j ∈ ps <;> simp [q1, q2]
def down (n : Nat) : Nat → List D
  | 0 => []
  | p + 1 => nD (n + p) :: down n p
section
variable {n : Nat} {s : List Deed}
def rwB : SM := (Py.ite (tst (bin oin (var 3) (var 2))) (for_ (iseq (call m_values_within (argC (bin oidx (un (oattr ["Builder"] "deeds") (var 0)) (bin osub (var 3) (un (oattr ["Builder"] "inputs") (var 0)))) argN))) (gnm 4) (setL 2 (var 4) (cst (.bl true)))) skip)
theorem need_loop (hr : Row n s) (hz : s.length ≤ 4000) {out : Nat} : ∀ (p : Nat) (kvs : List (D × D)) (o3 o4 : Option D), p ≤ s.length → NK kvs → kvs.length ≤ 1 + 4 * (s.length - p) → hasN kvs out = true → (∀ q, p ≤ q → (h : q < s.length) → hasN kvs (n + q) = true → ∀ a ∈ s[q].nums, hasN kvs a = true) →
    ∃ kvs' o3' o4', forL (forB (gnm 3) rwB) (down n p) (rwE (bD n s) out kvs o3 o4) = .ok (.next (rwE (bD n s) out kvs' o3' o4')) ∧ NK kvs' ∧ hasN kvs' out = true ∧ ∀ q, (h : q < s.length) → hasN kvs' (n + q) = true → ∀ a ∈ s[q].nums, hasN kvs' a = true
  | 0, kvs, o3, o4, _, hk, _, h0, hc => ⟨kvs, o3, o4, rfl, hk, h0, fun q h => hc q (Nat.zero_le _) h⟩
  | p + 1, kvs, o3, o4, hp, hk, hl, h0, hc => by
    have hps : p < s.length := hp
    have hin : bin oin (var 3) (var 2) (rwE (bD n s) out kvs (some (nD (n + p))) o4) = .ok (.bl (hasN kvs (n + p))) := by
      show (var 3 (rwE (bD n s) out kvs (some (nD (n + p))) o4) >>= fun a => var 2 (rwE (bD n s) out kvs (some (nD (n + p))) o4) >>= fun b => oin a b) = _
      rw [var_at (d := nD (n + p)) rfl, bind_ok, var_at (d := .dic false kvs) rfl, bind_ok, oin_dic rfl]
      rfl
    have ht : tst (bin oin (var 3) (var 2)) (rwE (bD n s) out kvs (some (nD (n + p))) o4) = .ok (hasN kvs (n + p)) := by
      unfold tst
      rw [hin]
      rfl
    have e0 : forB (gnm 3) rwB (nD (n + p)) (rwE (bD n s) out kvs o3 o4) = rwB (rwE (bD n s) out kvs (some (nD (n + p))) o4) := rfl
    cases hh : hasN kvs (n + p) with
    | false =>
      obtain ⟨kvs', o3', o4', q, r⟩ := need_loop hr hz (out := out) p kvs (some (nD (n + p))) o4 (by omega) hk (by omega) h0 fun q hq h hs => by
        by_cases e : q = p
        · subst e
          rw [hh] at hs
          cases hs
        · exact hc q (by omega) h hs
      refine ⟨kvs', o3', o4', ?_, r⟩
      simp only [down, forL]
      rw [e0]
      unfold rwB Py.ite
      rw [ht, hh, bind_ok, if_neg Bool.false_ne_true]
      exact q
    | true =>
      have n4 := nums4 (hr p hps)
      have h60 : SZ = 16777216 := rfl
      obtain ⟨k1, o41, q1, nk1, l1, z1⟩ := mark_loop (B := bD n s) (out := out) (o3 := some (nD (n + p))) s[p].nums kvs o4 hk (by omega)
      obtain ⟨kvs', o3', o4', q, r⟩ := need_loop hr hz (out := out) p k1 (some (nD (n + p))) o41 (by omega) nk1 (by omega) (by rw [z1, h0, Bool.or_true]) fun q hq h hs a ha => by
        rw [z1] at hs ⊢
        by_cases e : q = p
        · subst e
          rw [decide_eq_true ha]
          rfl
        · have hn : n + q ∉ s[p].nums := fun w => by
            have := nums_lt (hr p hps) _ w
            omega
          rw [decide_eq_false hn, Bool.false_or] at hs
          rw [hc q (by omega) h hs a ha, Bool.or_true]
      refine ⟨kvs', o3', o4', ?_, r⟩
      simp only [down, forL]
      rw [e0]
      have hd : bin oidx (un (oattr ["Builder"] "deeds") (var 0)) (bin osub (var 3) (un (oattr ["Builder"] "inputs") (var 0))) (rwE (bD n s) out kvs (some (nD (n + p))) o4) = .ok s[p].d := by
        have q2 := deed_at (n := n) (s := s) (i := n + p) (by omega) (by omega)
        have q3 : n + p - n = p := by omega
        simp only [q3] at q2
        show ((var 0 (rwE (bD n s) out kvs (some (nD (n + p))) o4) >>= oattr ["Builder"] "deeds") >>= fun a => (var 3 (rwE (bD n s) out kvs (some (nD (n + p))) o4) >>= fun a => (var 0 (rwE (bD n s) out kvs (some (nD (n + p))) o4) >>= oattr ["Builder"] "inputs") >>= fun b => osub a b) >>= fun b => oidx a b) = _
        rw [var_at (d := bD n s) rfl, bind_ok, bind_ok, bD_ds, bind_ok, var_at (d := nD (n + p)) rfl, bind_ok, bD_in, bind_ok, nsub (by omega), q3, bind_ok, q2]
      have hi : iseq (call m_values_within (argC (bin oidx (un (oattr ["Builder"] "deeds") (var 0)) (bin osub (var 3) (un (oattr ["Builder"] "inputs") (var 0)))) argN)) (rwE (bD n s) out kvs (some (nD (n + p))) o4) = .ok (s[p].nums.map nD) := by
        unfold iseq call argC
        rw [hd, bind_ok]
        show ((m_values_within [s[p].d]) >>= _) = _
        rw [within_ok]
        rfl
      have hB : rwB (rwE (bD n s) out kvs (some (nD (n + p))) o4) = .ok (.next (rwE (bD n s) out k1 (some (nD (n + p))) o41)) := by
        unfold rwB Py.ite
        rw [ht, hh, bind_ok, if_pos rfl]
        show (iseq _ _ >>= fun xs => forL (forB (gnm 4) (setL 2 (var 4) (cst (.bl true)))) xs _) = _
        rw [hi, bind_ok, q1]
      rw [hB]
      exact q
end
end Py.U
namespace Py.U
open PySem
section
variable {n : Nat} {s : List Deed}
abbrev keE (B : D) (out : Nat) (kvs : List (D × D)) (o3 o4 : Option D) (pv : List (D × D)) (ys : List Deed) (o7 o8 : Option D) : Env := [some B, some (nD out), some (.dic false kvs), o3, o4, some (.dic false pv), some (.lst (ys.map Deed.d)), o7, o8, none]
def keB : SM := (Py.ite (tst (bin oin (bin oadd (un (oattr ["Builder"] "inputs") (var 0)) (var 7)) (var 2))) (seq (setL 5 (bin oadd (un (oattr ["Builder"] "inputs") (var 0)) (var 7)) (bin oadd (un (oattr ["Builder"] "inputs") (var 0)) (un blen (var 6))))
  (app 6 (call m_with_values (argC (var 8) (argC (lcE (iseq (call m_values_within (argC (var 8) argN))) [4] (gnm 4) yes (bin oidx (var 5) (var 4))) argN))))) skip)
/-- what the walk over the deeds has kept -/
structure Kept (n : Nat) (s : List Deed) (kvs : List (D × D)) (k : Nat) (pv : List (D × D)) (ys : List Deed) (f : Nat → Nat) : Prop where
  row : Row n ys
  lg : ∀ x ∈ ys, x.lg = true
  len : ys.length ≤ k
  nk : NK pv
  pl : pv.length ≤ n + k
  at_ : ∀ j, (j < n ∨ ∃ q, q < k ∧ j = n + q ∧ hasN kvs (n + q) = true) → find (nD j) pv = some (nD (f j)) ∧ f j < n + ys.length
  sem : ∀ bs, Bits bs → bs.length = n → ∀ j, (j < n ∨ ∃ q, q < k ∧ j = n + q ∧ hasN kvs (n + q) = true) → vl [] bs ys (f j) = vl [] bs s j
theorem keep_step (hr : Row n s) (hg : ∀ x ∈ s, x.lg = true) (hz : s.length ≤ 4000) (h3 : n ≤ 3) {out : Nat} {kvs : List (D × D)} (hc : ∀ q, (h : q < s.length) → hasN kvs (n + q) = true → ∀ a ∈ s[q].nums, hasN kvs a = true) {k : Nat} (hk : k < s.length) {pv : List (D × D)} {ys : List Deed} {f : Nat → Nat} (K : Kept n s kvs k pv ys f) (o3 o4 o7 o8 : Option D) :
    ∃ pv' ys' f', forB (gtup [(gnm 7), (gnm 8)]) keB (.tup [.int (k : Int), s[k].d]) (keE (bD n s) out kvs o3 o4 pv ys o7 o8) = .ok (.next (keE (bD n s) out kvs o3 o4 pv' ys' (some (nD k)) (some s[k].d))) ∧ Kept n s kvs (k + 1) pv' ys' f' := by
  have e0 : forB (gtup [(gnm 7), (gnm 8)]) keB (.tup [.int (k : Int), s[k].d]) (keE (bD n s) out kvs o3 o4 pv ys o7 o8) = keB (keE (bD n s) out kvs o3 o4 pv ys (some (nD k)) (some s[k].d)) := rfl
  have hadd : ∀ pv ys, bin oadd (un (oattr ["Builder"] "inputs") (var 0)) (var 7) (keE (bD n s) out kvs o3 o4 pv ys (some (nD k)) (some s[k].d)) = .ok (nD (n + k)) := fun pv ys => by
    show ((var 0 (keE (bD n s) out kvs o3 o4 pv ys (some (nD k)) (some s[k].d)) >>= oattr ["Builder"] "inputs") >>= fun a => var 7 (keE (bD n s) out kvs o3 o4 pv ys (some (nD k)) (some s[k].d)) >>= fun b => oadd a b) = _
    rw [var_at (d := bD n s) rfl, bind_ok, bD_in, bind_ok, var_at (d := nD k) rfl, bind_ok, nadd]
  have ht : tst (bin oin (bin oadd (un (oattr ["Builder"] "inputs") (var 0)) (var 7)) (var 2)) (keE (bD n s) out kvs o3 o4 pv ys (some (nD k)) (some s[k].d)) = .ok (hasN kvs (n + k)) := by
    show ((bin oadd (un (oattr ["Builder"] "inputs") (var 0)) (var 7) (keE (bD n s) out kvs o3 o4 pv ys (some (nD k)) (some s[k].d)) >>= fun a => var 2 (keE (bD n s) out kvs o3 o4 pv ys (some (nD k)) (some s[k].d)) >>= fun b => oin a b) >>= truthy) = _
    rw [hadd, bind_ok, var_at (d := .dic false kvs) rfl, bind_ok, oin_dic rfl]
    rfl
  rw [e0]
  cases hh : hasN kvs (n + k) with
  | false =>
    have dom : ∀ j, (j < n ∨ ∃ q, q < k + 1 ∧ j = n + q ∧ hasN kvs (n + q) = true) → (j < n ∨ ∃ q, q < k ∧ j = n + q ∧ hasN kvs (n + q) = true) := fun j h => by
      rcases h with h | ⟨q, h1, h2, h3⟩
      · exact .inl h
      · refine .inr ⟨q, ?_, h2, h3⟩
        by_cases e : q = k
        · rw [e, hh] at h3
          cases h3
        · omega
    refine ⟨pv, ys, f, ?_, K.row, K.lg, by have := K.len; omega, K.nk, by have := K.pl; omega, fun j h => K.at_ j (dom j h), fun bs b l j h => K.sem bs b l j (dom j h)⟩
    unfold keB Py.ite
    rw [ht, hh, bind_ok, if_neg Bool.false_ne_true]
    rfl
  | true =>
    have hx := hr k hk
    have hgx : s[k].lg = true := hg _ (List.getElem_mem hk)
    have hlk := K.len
    have hpl := K.pl
    have h60 : SZ = 16777216 := rfl
    -- its values stand in the dict
    have old : ∀ a ∈ s[k].nums, a < n ∨ ∃ q, q < k ∧ a = n + q ∧ hasN kvs (n + q) = true := fun a ha => by
      have h1 := nums_lt hx a ha
      have h2 := hc k hk hh a ha
      by_cases q : a < n
      · exact .inl q
      · exact .inr ⟨a - n, by omega, by omega, by rw [show n + (a - n) = a by omega]; exact h2⟩
    have ne : ∀ a ∈ s[k].nums, a ≠ n + k := fun a ha w => by
      have := nums_lt hx a ha
      omega
    have hlen : (ys.map Deed.d).length = ys.length := List.length_map ..
    have h1 : setL 5 (bin oadd (un (oattr ["Builder"] "inputs") (var 0)) (var 7)) (bin oadd (un (oattr ["Builder"] "inputs") (var 0)) (un blen (var 6))) (keE (bD n s) out kvs o3 o4 pv ys (some (nD k)) (some s[k].d)) = .ok (.next (keE (bD n s) out kvs o3 o4 (putD (nD (n + k)) (nD (n + ys.length)) pv) ys (some (nD k)) (some s[k].d))) := by
      have hm : bin oadd (un (oattr ["Builder"] "inputs") (var 0)) (un blen (var 6)) (keE (bD n s) out kvs o3 o4 pv ys (some (nD k)) (some s[k].d)) = .ok (nD (n + ys.length)) := by
        show ((var 0 (keE (bD n s) out kvs o3 o4 pv ys (some (nD k)) (some s[k].d)) >>= oattr ["Builder"] "inputs") >>= fun a => (var 6 (keE (bD n s) out kvs o3 o4 pv ys (some (nD k)) (some s[k].d)) >>= blen) >>= fun b => oadd a b) = _
        rw [var_at (d := bD n s) rfl, bind_ok, bD_in, bind_ok, var_at (d := .lst (ys.map Deed.d)) rfl, bind_ok]
        show (Res.ok (nD (ys.map Deed.d).length) >>= fun b => oadd (nD n) b) = _
        rw [hlen, bind_ok, nadd]
      rw [setL_dic (t := false) (kvs := pv) (k := nD (n + k)) (d := nD (n + ys.length)) rfl hm (hadd pv ys) rfl (by omega)]
      rfl
    -- the renamed deed
    have hl : lcE (iseq (call m_values_within (argC (var 8) argN))) [4] (gnm 4) yes (bin oidx (var 5) (var 4)) (keE (bD n s) out kvs o3 o4 (putD (nD (n + k)) (nD (n + ys.length)) pv) ys (some (nD k)) (some s[k].d)) = .ok (.lst (s[k].nums.map fun a => nD (f a))) := by
      refine lc_mapI (k := nD) (h := fun a => nD (f a)) ?_ (le_sz (Nat.le_trans (nums4 hx) (by decide))) fun a ha => ⟨_, rfl, ?_⟩
      · unfold iseq call argC
        rw [var_at (d := s[k].d) rfl, bind_ok]
        show ((m_values_within [s[k].d]) >>= _) = _
        rw [within_ok]
        rfl
      · show oidx (.dic false (putD (nD (n + k)) (nD (n + ys.length)) pv)) (nD a) = _
        refine oidx_dic rfl ?_
        rw [find_putN _ _ _ _ K.nk, if_neg (ne a ha)]
        exact (K.at_ a (old a ha)).1
    have hw : call m_with_values (argC (var 8) (argC (lcE (iseq (call m_values_within (argC (var 8) argN))) [4] (gnm 4) yes (bin oidx (var 5) (var 4))) argN)) (keE (bD n s) out kvs o3 o4 (putD (nD (n + k)) (nD (n + ys.length)) pv) ys (some (nD k)) (some s[k].d)) = .ok (s[k].ren f).d := by
      rw [call_eq, argC_eq, argC_eq, hl, var_at (d := s[k].d) rfl, bind_ok, bind_ok]
      have := with_ok s[k] f
      rw [List.map_map] at this
      exact this
    have hap : app 6 (call m_with_values (argC (var 8) (argC (lcE (iseq (call m_values_within (argC (var 8) argN))) [4] (gnm 4) yes (bin oidx (var 5) (var 4))) argN))) (keE (bD n s) out kvs o3 o4 (putD (nD (n + k)) (nD (n + ys.length)) pv) ys (some (nD k)) (some s[k].d)) = .ok (.next (keE (bD n s) out kvs o3 o4 (putD (nD (n + k)) (nD (n + ys.length)) pv) (ys ++ [s[k].ren f]) (some (nD k)) (some s[k].d))) := by
      rw [app_eq, var_at (d := .lst (ys.map Deed.d)) rfl, bind_ok]
      dsimp only
      have em : ys.map Deed.d ++ [(s[k].ren f).d] = (ys ++ [s[k].ren f]).map Deed.d := by simp
      rw [hw, bind_ok, if_pos (by rw [hlen]; omega), em]
      rfl
    have fok : ∀ a ∈ s[k].nums, f a < n + ys.length := fun a ha => (K.at_ a (old a ha)).2
    refine ⟨putD (nD (n + k)) (nD (n + ys.length)) pv, ys ++ [s[k].ren f], fun j => if j = n + k then n + ys.length else f j, ?_, K.row.snoc (ren_ok hx fok), fun x hx => ?_, by rw [List.length_append]; simp only [List.length_cons, List.length_nil]; omega, put_NK K.nk, by have := putD_len (nD (n + k)) (nD (n + ys.length)) pv; omega, fun j h => ?_, fun bs hb hbl j h => ?_⟩
    · unfold keB Py.ite
      rw [ht, hh, bind_ok, if_pos rfl]
      rw [seq_next h1, hap]
    · rcases List.mem_append.mp hx with z | z
      · exact K.lg x z
      · rw [List.mem_singleton.mp z, ren_lg]
        exact hgx
    · rw [find_putN _ _ _ _ K.nk, List.length_append]
      by_cases e : j = n + k
      · rw [if_pos e, if_pos e]
        exact ⟨rfl, by simp⟩
      · rw [if_neg e, if_neg e]
        have h' : j < n ∨ ∃ q, q < k ∧ j = n + q ∧ hasN kvs (n + q) = true := by
          rcases h with h | ⟨q, a1, a2, a3⟩
          · exact .inl h
          · exact .inr ⟨q, by omega, a2, a3⟩
        have := K.at_ j h'
        exact ⟨this.1, by omega⟩
    · by_cases e : j = n + k
      · rw [if_pos e, e, vl_at hr hbl hk (lg_mark hgx)]
        unfold vl
        rw [runD_snoc, stp_u (lg_mark (by rw [ren_lg]; exact hgx))]
        dsimp only
        rw [at0_new (by rw [run_len, hbl])]
        exact ren_bit0 fun a ha => K.sem bs hb hbl a (old a ha)
      · rw [if_neg e]
        have h' : j < n ∨ ∃ q, q < k ∧ j = n + q ∧ hasN kvs (n + q) = true := by
          rcases h with h | ⟨q, a1, a2, a3⟩
          · exact .inl h
          · exact .inr ⟨q, by omega, a2, a3⟩
        rw [vl_old hbl (K.at_ j h').2]
        exact K.sem bs hb hbl j h'
theorem keep_loop (hr : Row n s) (hg : ∀ x ∈ s, x.lg = true) (hz : s.length ≤ 4000) (h3 : n ≤ 3) {out : Nat} {kvs : List (D × D)} (hc : ∀ q, (h : q < s.length) → hasN kvs (n + q) = true → ∀ a ∈ s[q].nums, hasN kvs a = true) {o3 o4 : Option D} :
    ∀ (m k : Nat) (pv : List (D × D)) (ys : List Deed) (f : Nat → Nat) (o7 o8 : Option D), k + m = s.length → Kept n s kvs k pv ys f →
    ∃ pv' ys' f' o7' o8', forL (forB (gtup [(gnm 7), (gnm 8)]) keB) (enumL k ((s.drop k).map Deed.d)) (keE (bD n s) out kvs o3 o4 pv ys o7 o8) = .ok (.next (keE (bD n s) out kvs o3 o4 pv' ys' o7' o8')) ∧ Kept n s kvs s.length pv' ys' f'
  | 0, k, pv, ys, f, o7, o8, hm, K => by
    have : k = s.length := by omega
    subst this
    exact ⟨pv, ys, f, o7, o8, by rw [List.drop_length]; rfl, K⟩
  | m + 1, k, pv, ys, f, o7, o8, hm, K => by
    have hk : k < s.length := by omega
    obtain ⟨p1, y1, f1, q1, K1⟩ := keep_step hr hg hz h3 (out := out) hc hk K o3 o4 o7 o8
    obtain ⟨p2, y2, f2, a, b, q2, K2⟩ := keep_loop hr hg hz h3 (out := out) hc (o3 := o3) (o4 := o4) m (k + 1) p1 y1 f1 (some (nD k)) (some s[k].d) (by omega) K1
    refine ⟨p2, y2, f2, a, b, ?_, K2⟩
    rw [List.drop_eq_getElem_cons hk]
    simp only [List.map_cons, enumL, forL]
    rw [q1]
    exact q2
theorem rng_down {m k : Int} {p : Nat} (hm : m = (n : Int) + p - 1) (hk : k = (n : Int) - 1) : rng3L m k (-1) = down n p := by
  subst hm hk
  have hc : cnt3 ((n : Int) + p - 1) ((n : Int) - 1) (-1) = p := by
    unfold cnt3
    rw [if_neg (by decide)]
    omega
  unfold rng3L
  rw [hc]
  clear hc
  induction p with
  | zero => rfl
  | succ p ih =>
    rw [List.range_succ_eq_map, List.map_cons, List.map_map]
    simp only [down]
    congr 1
    · show D.int _ = D.int _
      congr 1
      omega
    · rw [← ih]
      refine List.map_congr_left fun i _ => ?_
      show D.int _ = D.int _
      congr 1
      omega
theorem row_ok (h1 : 1 ≤ n) (h3 : n ≤ 3) (hr : Row n s) (hg : ∀ x ∈ s, x.lg = true) (hz : s.length ≤ 4000) {out : Nat} (ho : out < n + s.length) :
    ∃ ys o, m_Builder_row [bD n s, nD out] = .ok (rowD n ys o) ∧ Row n ys ∧ (∀ x ∈ ys, x.lg = true) ∧ ys.length ≤ s.length ∧ o < n + ys.length ∧ ∀ bs, Bits bs → bs.length = n → vl [] bs ys o = vl [] bs s out := by
  have k0 : NK [(nD out, D.bl true)] := fun q hq => by
    rw [List.mem_singleton.mp hq]
    exact ⟨out, rfl⟩
  have hs0 : hasN [(nD out, D.bl true)] out = true := by
    unfold hasN
    simp only [find, nD_eq, decide_true, if_true]
    rfl
  obtain ⟨kvs, o3, o4, q1, nk, hout, hc⟩ := need_loop hr hz (out := out) s.length [(nD out, .bl true)] none none (Nat.le_refl _) k0 (by simp) hs0 fun q h1 h2 => absurd h2 (by omega)
  have hdc : ∃ pv, dcE false (irng1 (un (oattr ["Builder"] "inputs") (var 0))) [9] (gnm 9) yes (var 9) (var 9) (rwE (bD n s) out kvs o3 o4) = .ok (.dic false pv) ∧ Kept n s kvs 0 pv [] (fun j => j) := by
    have e : n = 1 ∨ n = 2 ∨ n = 3 := by omega
    have nil : ∀ {pv : List (D × D)}, NK pv → pv.length ≤ n → (∀ j, j < n → find (nD j) pv = some (nD j)) → Kept n s kvs 0 pv [] (fun j => j) := fun a b c => ⟨fun k h => absurd h (by simp), by simp, by simp, a, b, fun j h => by
        rcases h with h | ⟨q, h, _⟩
        · exact ⟨c j h, h⟩
        · omega, fun bs hb hl j h => by
        rcases h with h | ⟨q, h, _⟩
        · obtain ⟨u, hu, _⟩ := run_pre [] bs [] s
          rw [List.nil_append] at hu
          unfold vl
          rw [hu]
          exact (at0_old (by rw [run_len, hl]; simpa using h)).symm
        · omega⟩
    rcases e with rfl | rfl | rfl
    · exact ⟨[(nD 0, nD 0)], rfl, nil (fun q hq => by simp only [List.mem_cons, List.not_mem_nil, or_false] at hq; rw [hq]; exact ⟨_, rfl⟩) (by simp) fun j hj => by
        have : j = 0 := by omega
        subst this; rfl⟩
    · exact ⟨[(nD 0, nD 0), (nD 1, nD 1)], rfl, nil (fun q hq => by simp only [List.mem_cons, List.not_mem_nil, or_false] at hq; rcases hq with rfl | rfl <;> exact ⟨_, rfl⟩) (by simp) fun j hj => by
        have : j = 0 ∨ j = 1 := by omega
        rcases this with rfl | rfl <;> rfl⟩
    · exact ⟨[(nD 0, nD 0), (nD 1, nD 1), (nD 2, nD 2)], rfl, nil (fun q hq => by simp only [List.mem_cons, List.not_mem_nil, or_false] at hq; rcases hq with rfl | rfl | rfl <;> exact ⟨_, rfl⟩) (by simp) fun j hj => by
        have : j = 0 ∨ j = 1 ∨ j = 2 := by omega
        rcases this with rfl | rfl | rfl <;> rfl⟩
  obtain ⟨pv, qd, K0⟩ := hdc
  obtain ⟨pv', ys, f, o7, o8, q2, K⟩ := keep_loop hr hg hz h3 (out := out) hc (o3 := o3) (o4 := o4) s.length 0 pv [] (fun j => j) none none (by omega) K0
  have dom : out < n ∨ ∃ q, q < s.length ∧ out = n + q ∧ hasN kvs (n + q) = true := by
    by_cases q : out < n
    · exact .inl q
    · exact .inr ⟨out - n, by omega, by omega, by rw [show n + (out - n) = out by omega]; exact hout⟩
  obtain ⟨f1, f2⟩ := K.at_ out dom
  refine ⟨ys, f out, ?_, K.row, K.lg, K.len, f2, fun bs hb hl => K.sem bs hb hl out dom⟩
  have hrow := row_made h1 h3 K.row (by have := K.len; omega) f2
  show fn 2 10 b_Builder_row [bD n s, nD out] = _
  rw [fn2]
  unfold b_Builder_row
  have i1 : irng3 (bin osub (bin oadd (un (oattr ["Builder"] "inputs") (var 0)) (un blen (un (oattr ["Builder"] "deeds") (var 0)))) (cst (.int 1))) (bin osub (un (oattr ["Builder"] "inputs") (var 0)) (cst (.int 1))) (un oneg (cst (.int 1))) (rwE (bD n s) out [(nD out, .bl true)] none none) = .ok (down n s.length) := by
    have a1 : un (oattr ["Builder"] "inputs") (var 0) (rwE (bD n s) out [(nD out, .bl true)] none none) = .ok (nD n) := rfl
    have a2 : un blen (un (oattr ["Builder"] "deeds") (var 0)) (rwE (bD n s) out [(nD out, .bl true)] none none) = .ok (nD s.length) := by
      rw [← List.length_map (f := Deed.d) (as := s)]
      rfl
    have a3 : bin osub (bin oadd (un (oattr ["Builder"] "inputs") (var 0)) (un blen (un (oattr ["Builder"] "deeds") (var 0)))) (cst (.int 1)) (rwE (bD n s) out [(nD out, .bl true)] none none) = .ok (nD (n + s.length - 1)) := by
      show (bin oadd _ _ _ >>= fun a => Res.ok (D.int 1) >>= fun b => osub a b) = _
      rw [show bin oadd (un (oattr ["Builder"] "inputs") (var 0)) (un blen (un (oattr ["Builder"] "deeds") (var 0))) (rwE (bD n s) out [(nD out, .bl true)] none none) = .ok (nD (n + s.length)) by
        show (un (oattr ["Builder"] "inputs") (var 0) (rwE (bD n s) out [(nD out, .bl true)] none none) >>= fun a => un blen (un (oattr ["Builder"] "deeds") (var 0)) (rwE (bD n s) out [(nD out, .bl true)] none none) >>= fun b => oadd a b) = _
        rw [a1, bind_ok, a2, bind_ok, nadd], bind_ok, bind_ok]
      exact nsub (a := n + s.length) (b := 1) (by omega)
    have a4 : bin osub (un (oattr ["Builder"] "inputs") (var 0)) (cst (.int 1)) (rwE (bD n s) out [(nD out, .bl true)] none none) = .ok (nD (n - 1)) := by
      show (un (oattr ["Builder"] "inputs") (var 0) _ >>= fun a => Res.ok (D.int 1) >>= fun b => osub a b) = _
      rw [a1, bind_ok, bind_ok]
      exact nsub (a := n) (b := 1) h1
    have hb : B62 = 4611686018427387904 := by decide
    unfold irng3
    rw [a3, bind_ok, a4, bind_ok, show un oneg (cst (.int 1)) (rwE (bD n s) out [(nD out, .bl true)] none none) = .ok (.int (-1)) from rfl, bind_ok]
    show (if _ then Res.ok (rng3L ((n + s.length - 1 : Nat) : Int) ((n - 1 : Nat) : Int) (-1)) else Res.stuck) = _
    rw [if_pos ⟨by rw [hb]; omega, by rw [hb]; omega, .inr rfl, by decide⟩, rng_down (n := n) (p := s.length) (by omega) (by omega)]
  refine (congrArg done ((asg_pass (d := .dic false [(nD out, .bl true)]) rfl).trans ?_)).trans (done_ret _)
  refine (for_pass (e' := rwE (bD n s) out kvs o3 o4) i1 q1).trans ?_
  refine (asg_pass (d := .dic false pv) qd).trans ?_
  refine (asg_pass (d := .lst []) rfl).trans ?_
  have i2 : ienum (un (oattr ["Builder"] "deeds") (var 0)) (keE (bD n s) out kvs o3 o4 pv [] none none) = .ok (enumL 0 ((s.drop 0).map Deed.d)) := rfl
  refine (for_pass (e' := keE (bD n s) out kvs o3 o4 pv' ys o7 o8) i2 q2).trans ?_
  have i3 : bin oidx (var 5) (var 1) (keE (bD n s) out kvs o3 o4 pv' ys o7 o8) = .ok (nD (f out)) := by
    show (var 5 (keE (bD n s) out kvs o3 o4 pv' ys o7 o8) >>= fun a => var 1 (keE (bD n s) out kvs o3 o4 pv' ys o7 o8) >>= fun b => oidx a b) = _
    rw [var_at (d := .dic false pv') rfl, bind_ok, var_at (d := nD out) rfl, bind_ok]
    exact oidx_dic rfl f1
  rw [ret_eq, call_eq, argC_eq, argC_eq, argC_eq, i3]
  show (m_Row [nD n, .tup (ys.map Deed.d), nD (f out)] >>= _) = _
  rw [hrow]
  rfl
end
end Py.U
namespace Py.U
open PySem
/-! ### logic_row -/
theorem retMX_ok {c m : String} {i : Nat} {f : List D → Res D} {a : XA} {e e1 : Env} {fs : List (String × D)} {o : D} {ds : List D} {d : D} (h0 : e[i]? = some (some (.ins c fs))) (hm : (fs.lookup m).isNone = true) (ha : a e = .ok (ds, e1)) (h1 : e1[i]? = some (some o)) (hf : f (o :: ds) = .ok d) : retMX i c m f a e = .ok (.ret d) := by
  unfold retMX
  rw [var_at h0, bind_ok]
  dsimp only
  rw [if_pos ⟨rfl, hm⟩, ha, bind_ok, var_at h1, bind_ok, hf]
  rfl
theorem builder_new (n : Nat) : m_Builder [nD n] = .ok (bD n []) := rfl
theorem bitx_inj {n x y : Nat} (h3 : n ≤ 3) (hx : x < 2 ^ n) (hy : y < 2 ^ n) (h : ∀ i, i < n → bitx x i = bitx y i) : x = y := by
  unfold bitx at h
  have : n = 0 ∨ n = 1 ∨ n = 2 ∨ n = 3 := by omega
  rcases this with rfl | rfl | rfl | rfl
  · omega
  · have a := h 0 (by omega)
    simp only [Nat.pow_zero, Nat.div_one] at a
    omega
  · have a := h 0 (by omega)
    have b := h 1 (by omega)
    simp only [Nat.pow_zero, Nat.pow_one, Nat.div_one] at a b
    omega
  · have a := h 0 (by omega)
    have b := h 1 (by omega)
    have c := h 2 (by omega)
    simp only [Nat.pow_zero, Nat.pow_one, Nat.div_one, show 2 ^ 2 = 4 from rfl] at a b c
    have : (2 : Nat) ^ 3 = 8 := rfl
    omega
theorem letB_eq {n x y : Nat} (h3 : n ≤ 3) (hx : x < 2 ^ n) (hy : y < 2 ^ n) {w : Nat → Nat} (hw : ∀ i, i < n → w i = bitx y i) : letB n x w = decide (x = y) := by
  unfold letB
  by_cases q : x = y
  · subst q
    rw [decide_eq_true rfl, List.all_eq_true]
    intro i hi
    rw [hw i (List.mem_range.mp hi)]
    simp
  · rw [decide_eq_false q]
    rw [Bool.eq_false_iff]
    intro h
    rw [List.all_eq_true] at h
    refine q (bitx_inj h3 hx hy fun i hi => ?_)
    have := h i (List.mem_range.mpr hi)
    rw [hw i hi] at this
    exact (by simpa using this : bitx y i = bitx x i).symm
theorem hitB_eq {n y : Nat} (h3 : n ≤ 3) (hy : y < 2 ^ n) {w : Nat → Nat} (hw : ∀ i, i < n → w i = bitx y i) : ∀ (r : List Nat) (k : Nat), k + r.length ≤ 2 ^ n → hitB n w k r = (decide (k ≤ y) && (r.getD (y - k) 0 == 1))
  | [], k, _ => by simp [hitB]
  | b :: r, k, h => by
    simp only [List.length_cons] at h
    simp only [hitB]
    rw [letB_eq h3 (by omega) hy hw, hitB_eq h3 hy hw r (k + 1) (by omega)]
    by_cases q : k = y
    · subst q
      have h1 : decide (k + 1 ≤ k) = false := decide_eq_false (by omega)
      rw [h1]
      simp
    · rw [decide_eq_false q, Bool.and_false, Bool.false_or]
      by_cases q2 : k ≤ y
      · have e : y - k = (y - (k + 1)) + 1 := by omega
        rw [decide_eq_true q2, decide_eq_true (show k + 1 ≤ y by omega), e]
        simp
      · rw [decide_eq_false q2, decide_eq_false (show ¬ k + 1 ≤ y by omega)]
        rfl
/-- a row with logic deeds alone that writes the line r -/
structure Wr (n : Nat) (r : List Nat) (ys : List Deed) (o : Nat) : Prop where
  row : Row n ys
  lg : ∀ x ∈ ys, x.lg = true
  len : ys.length ≤ 2000
  lt : o < n + ys.length
  val : ∀ y, y < 2 ^ n → vl [] (lb n y) ys o = at1 r y
theorem logic_ok {n S : Nat} {nx os : List (List Nat)} (h1 : 1 ≤ n) (h3 : n ≤ 3) (h : Tbl S (2 ^ n) S nx) (ho : Tbl S (2 ^ n) 2 os) (h0 : 0 < S) (hz : S ≤ 999) :
    (1 < (fndM nx os).length → m_logic_row [macD n nx os] = .ok .non) ∧ ((fndM nx os).length = 1 → ∃ ys o, m_logic_row [macD n nx os] = .ok (rowD n ys o) ∧ Wr n (rw1 os 0) ys o) := by
  have lm := least_ok h1 h3 h ho h0 hz
  have hN : (lsN nx os).length = (fndM nx os).length := by simp [lsN]
  have p8 := pow3 h1 h3
  obtain ⟨g1, g2, g3, t, g4⟩ := fndM_ok h ho.len h0
  have c1 : bin ogt (un blen (un (oattr ["Machine"] "nexts") (var 1))) (cst (.int 1)) [some (macD n nx os), some (macD n (lsN nx os) (lsO nx os)), none] = .ok (.bl (decide (1 < (fndM nx os).length))) := by
    have e1 : un blen (un (oattr ["Machine"] "nexts") (var 1)) [some (macD n nx os), some (macD n (lsN nx os) (lsO nx os)), none] = .ok (nD (fndM nx os).length) := by
      rw [← hN, ← List.length_map (f := rD) (as := lsN nx os)]
      rfl
    show (un blen (un (oattr ["Machine"] "nexts") (var 1)) [some (macD n nx os), some (macD n (lsN nx os) (lsO nx os)), none] >>= fun a => Res.ok (D.int 1) >>= fun b => ogt a b) = _
    rw [e1, bind_ok, bind_ok]
    show Res.ok (D.bl (decide ((1 : Int) < ((fndM nx os).length : Int)))) = _
    congr 2
    by_cases q : 1 < (fndM nx os).length
    · rw [decide_eq_true q, decide_eq_true (by omega)]
    · rw [decide_eq_false q, decide_eq_false (by omega)]
  have ct : tst (bin ogt (un blen (un (oattr ["Machine"] "nexts") (var 1))) (cst (.int 1))) [some (macD n nx os), some (macD n (lsN nx os) (lsO nx os)), none] = .ok (decide (1 < (fndM nx os).length)) := by
    unfold tst
    rw [c1]
    rfl
  have start : ∀ d, seq (Py.ite (tst (bin ogt (un blen (un (oattr ["Machine"] "nexts") (var 1))) (cst (.int 1)))) (ret (cst .non)) skip) (seq (asg (gnm 2) (call m_Builder (argC (un (oattr ["Row", "Machine"] "inputs") (var 1)) argN)))
      (retMX 2 "Builder" "row" m_Builder_row (xaC (lendX 2 m_written_word (xaC (upX (var 1)) (xaC (lstX (xaC (lendM "Builder" "ones" 2 m_Builder_ones xaN) xaN)) xaN))) xaN))) [some (macD n nx os), some (macD n (lsN nx os) (lsO nx os)), none] = .ok (.ret d) → m_logic_row [macD n nx os] = .ok d := fun d hd => by
    show fn 1 3 b_logic_row [macD n nx os] = _
    rw [fn1]
    unfold b_logic_row
    refine (congrArg done ((asg_pass (d := macD n (lsN nx os) (lsO nx os)) ?_).trans hd)).trans (done_ret _)
    show (m_least_machine [macD n nx os]) = _
    exact lm
  refine ⟨fun q => start _ (hit (ct.trans (by rw [decide_eq_true q])) rfl), fun q => ?_⟩
  have ht : t = [] := by
    rw [g4] at q
    cases t with
    | nil => rfl
    | cons _ _ => simp at q
  have hf : fndM nx os = [0] := by rw [g4, ht]; rfl
  have hO : (lsO nx os).map rD = rD (rw1 os 0) :: [] := by unfold lsO; rw [hf]; rfl
  generalize hr0 : rw1 os 0 = r at *
  have hrl : r.length = 2 ^ n ∧ ∀ x ∈ r, x < 2 := by rw [← hr0]; exact (ho.at h0).2
  obtain ⟨hr1, hr2⟩ := hrl
  have r0 : Row n [] := fun k hk => absurd hk (by simp)
  generalize hM : macD n (lsN nx os) (lsO nx os) = M at *
  obtain ⟨r1, q1, o1⟩ := lend_ones (i := 2) (e := [some (macD n nx os), some M, some (bD n [])]) r0 (by decide) rfl
  have l1 := o1.len
  simp only [List.length_nil] at l1
  have hM2 : M = .ins "Machine" [("inputs", nD n), ("nexts", .tup ((lsN nx os).map rD)), ("outs", .tup (rD r :: []))] := by
    rw [← hM]
    unfold macD
    rw [hO]
  obtain ⟨r2, q2, x2⟩ := written_ok (nx := .tup ((lsN nx os).map rD)) (os := []) (r := r) o1.row h3 (by have : PMS = 100000 := rfl; omega) o1.lt
  rw [← hM2] at q2
  have o2 := o1.trans (v' := fun w => if hitB n w 0 r = true then 1 else 0) x2 fun w w' ol _ _ e => by rw [e, hitB_old ol]; rfl
  obtain ⟨s2, e2, g2', z2⟩ := o2.pre
  rw [List.nil_append] at e2
  have hlen : r2.2.length ≤ 1000 := by rw [e2]; omega
  obtain ⟨ys, o, q3, y1, y2, y3, y4, y5⟩ := row_ok h1 h3 o2.row (by rw [e2]; exact g2') (by omega) o2.lt
  refine ⟨ys, o, start _ ?_, y1, y2, by omega, y4, fun y hy => ?_⟩
  · refine (chk_pass (ct.trans (by rw [q]; rfl))).trans ((asg_pass (d := bD n []) ?_).trans ?_)
    · have hin : oattr ["Row", "Machine"] "inputs" M = .ok (nD n) := by rw [hM2]; rfl
      show ((var 1 [some (macD n nx os), some M, none] >>= oattr ["Row", "Machine"] "inputs") >>= fun a => Res.ok [] >>= fun b => Res.ok (a :: b)) >>= m_Builder = _
      rw [var_at (d := M) rfl, bind_ok, hin]
      exact builder_new n
    · have hl : lstX (xaC (lendM "Builder" "ones" 2 m_Builder_ones xaN) xaN) [some (macD n nx os), some M, some (bD n [])] = .ok (.lst [nD r1.1], [some (macD n nx os), some M, some (bD n r1.2)]) := by
        unfold lstX
        rw [xaC_ok q1 xaN_ok, bind_ok]
        rfl
      exact retMX_ok (e := [some (macD n nx os), some M, some (bD n [])]) (fs := bF n []) rfl rfl (xaC_ok (lendX_ok (o0 := bD n []) (o := bD n r1.2) rfl (xaC_ok (upX_ok rfl) (xaC_ok hl xaN_ok)) rfl q2) xaN_ok) rfl q3
  · have gd : Good n [] (lb n y) [] := ⟨lb_bits n y, lb_len n y, lb_bits n y⟩
    obtain ⟨_, va⟩ := o2.sem [] (lb n y) gd
    rw [y5 _ (lb_bits n y) (lb_len n y), va]
    have hw : ∀ i, i < n → vl [] (lb n y) [] i = bitx y i := fun i hi => by
      show at0 (lb n y) i = _
      unfold at0 lb bitx
      rw [List.getD_eq_getElem?_getD, List.getElem?_map, List.getElem?_range hi]
      rfl
    rw [hitB_eq h3 hy hw r 0 (by omega), decide_eq_true (Nat.zero_le y), Bool.true_and, Nat.sub_zero]
    show (if (at1 r y == 1) = true then 1 else 0) = at1 r y
    have hb : at1 r y < 2 := hr2 _ (at1_mem (by omega))
    have : at1 r y = 0 ∨ at1 r y = 1 := by omega
    rcases this with e | e <;> rw [e] <;> rfl
end Py.U
namespace Py.U
open PySem
/-! ### the law's look at a row -/
theorem orT_ff {a b : TM} {e : Env} (h : a e = .ok false) (k : b e = .ok false) : orT a b e = .ok false := by
  unfold orT
  rw [h, bind_ok, if_neg Bool.false_ne_true, k]
theorem notT_t {a : TM} {e : Env} (h : a e = .ok true) : notT a e = .ok false := by
  unfold notT
  rw [h]
  rfl
theorem notT_f {a : TM} {e : Env} (h : a e = .ok false) : notT a e = .ok true := by
  unfold notT
  rw [h]
  rfl
theorem oge_n (t : Nat) (k : Nat) : oge (nD t) (nD k) = .ok (.bl (decide (k ≤ t))) := by
  show Res.ok (D.bl (decide ((k : Int) ≤ (t : Int)))) = _
  simp
theorem olt_n (t k : Nat) : olt (nD t) (nD k) = .ok (.bl (decide (t < k))) := by
  show Res.ok (D.bl (decide ((t : Int) < (k : Int)))) = _
  simp
theorem nat_ne (a b : Nat) : Py.one (nD a) (nD b) = .ok (.bl (!decide (a = b))) := by
  show (if (plain (nD a) && plain (nD b)) = true then Res.ok (D.bl !eqv (nD a) (nD b)) else Res.stuck) = _
  rw [nD_eq]
  rfl
def lnB : SM := (Py.ite (orT (notT (tst (call m_law_integer (argC (var 2) argN)))) (orT (tst (bin olt (var 2) (cst (.int 0)))) (tst (bin oge (var 2) (var 1))))) (ret (cst (.bl false))) skip)
theorem ln_loop {W : D} {k : Nat} : ∀ (ps : List Nat) (o2 : Option D), (∀ a ∈ ps, a < k) → ∃ o2', forL (forB (gnm 2) lnB) (ps.map nD) [some W, some (nD k), o2] = .ok (.next [some W, some (nD k), o2'])
  | [], o2, _ => ⟨o2, rfl⟩
  | a :: ps, o2, h => by
    obtain ⟨o2', q⟩ := ln_loop (W := W) ps (some (nD a)) fun b hb => h b (List.mem_cons_of_mem _ hb)
    refine ⟨o2', ?_⟩
    have ha := h a List.mem_cons_self
    have h1 : tst (call m_law_integer (argC (var 2) argN)) [some W, some (nD k), some (nD a)] = .ok true := rfl
    have h2 : tst (bin olt (var 2) (cst (.int 0))) [some W, some (nD k), some (nD a)] = .ok false := by
      show ((Res.ok (nD a) >>= fun x => Res.ok (D.int 0) >>= fun y => olt x y) >>= truthy) = _
      rw [bind_ok, bind_ok, show D.int 0 = nD 0 from rfl, olt_n, decide_eq_false (by omega)]
      rfl
    have h3 : tst (bin oge (var 2) (var 1)) [some W, some (nD k), some (nD a)] = .ok false := by
      show ((Res.ok (nD a) >>= fun x => Res.ok (nD k) >>= fun y => oge x y) >>= truthy) = _
      rw [bind_ok, bind_ok, oge_n, decide_eq_false (by omega)]
      rfl
    simp only [List.map_cons, forL]
    have e : forB (gnm 2) lnB (nD a) [some W, some (nD k), o2] = .ok (.next [some W, some (nD k), some (nD a)]) := by
      show lnB [some W, some (nD k), some (nD a)] = _
      unfold lnB Py.ite
      rw [orT_ff (notT_t h1) (orT_ff h2 h3), bind_ok, if_neg Bool.false_ne_true]
      rfl
    rw [e]
    exact q
theorem numbers_ok {W : D} {ps : List Nat} {k : Nat} (hW : iseq (var 0) [some W, some (nD k), none] = .ok (ps.map nD)) (h : ∀ a ∈ ps, a < k) : m_law_numbers [W, nD k] = .ok (.bl true) := by
  obtain ⟨o2', q⟩ := ln_loop (W := W) ps none h
  show fn 2 3 b__law_numbers [W, nD k] = _
  rw [fn2]
  exact (congrArg done ((for_pass hW q).trans rfl)).trans (done_ret _)
abbrev MANY : D := .dic false [(.str "zero", .int 1), (.str "ones", .int 1), (.str "not", .int 2), (.str "and", .int 3), (.str "or", .int 3), (.str "xor", .int 3)]
def grB : SM := (seq (Py.ite (orT (notT (tst (un (oisi CS [.tup]) (var 4)))) (orT (tst (bin oeq (un blen (var 4)) (cst (.int 0)))) (orT (notT (tst (un (oisi CS [.str]) (bin oidx (var 4) (cst (.int 0)))))) (tst (bin onotin (bin oidx (var 4) (cst (.int 0))) (var 2)))))) (ret (cst (.bl false))) skip)
  (seq (Py.ite (orT (tst (bin Py.one (un blen (var 4)) (bin oidx (var 2) (bin oidx (var 4) (cst (.int 0)))))) (notT (tst (call m_law_numbers (argC (slc (var 4) (some (cst (.int 1))) none) (argC (var 3) argN)))))) (ret (cst (.bl false))) skip)
  (asg (gnm 3) (bin oadd (var 3) (cst (.int 1))))))
theorem gr_step {F N : D} {x : Deed} {k : Nat} (hg : x.lg = true) (hx : x.ok k) : grB [some F, some N, some MANY, some (nD k), some x.d] = .ok (.next [some F, some N, some MANY, some (nD (k + 1)), some x.d]) := by
  have h1 : orT (notT (tst (un (oisi CS [.tup]) (var 4)))) (orT (tst (bin oeq (un blen (var 4)) (cst (.int 0)))) (orT (notT (tst (un (oisi CS [.str]) (bin oidx (var 4) (cst (.int 0)))))) (tst (bin onotin (bin oidx (var 4) (cst (.int 0))) (var 2))))) [some F, some N, some MANY, some (nD k), some x.d] = .ok false := by
    cases x <;> first | (cases hg; done) | rfl
  have h2 : tst (bin Py.one (un blen (var 4)) (bin oidx (var 2) (bin oidx (var 4) (cst (.int 0))))) [some F, some N, some MANY, some (nD k), some x.d] = .ok false := by
    cases x <;> first | (cases hg; done) | rfl
  have hs : slc (var 4) (some (cst (.int 1))) none [some F, some N, some MANY, some (nD k), some x.d] = .ok (.tup (x.nums.map nD)) := by
    cases x <;> first | (cases hg; done) | rfl
  have h3 : tst (call m_law_numbers (argC (slc (var 4) (some (cst (.int 1))) none) (argC (var 3) argN))) [some F, some N, some MANY, some (nD k), some x.d] = .ok true := by
    have := numbers_ok (W := .tup (x.nums.map nD)) (k := k) rfl (nums_lt hx)
    unfold tst call argC
    rw [hs, bind_ok]
    show ((m_law_numbers [.tup (x.nums.map nD), nD k]) >>= truthy) = _
    rw [this]
    rfl
  refine (chk_pass h1).trans ((chk_pass (orT_ff h2 (notT_t h3))).trans ?_)
  have h4 : bin oadd (var 3) (cst (.int 1)) [some F, some N, some MANY, some (nD k), some x.d] = .ok (nD (k + 1)) := nadd k 1
  rw [asg_eq, h4]
  rfl
theorem gr_loop {F N : D} : ∀ (xs : List Deed) (k : Nat) (o4 : Option D), (∀ x ∈ xs, x.lg = true) → Row k xs → ∃ o4', forL (forB (gnm 4) grB) (xs.map Deed.d) [some F, some N, some MANY, some (nD k), o4] = .ok (.next [some F, some N, some MANY, some (nD (k + xs.length)), o4'])
  | [], k, o4, _, _ => ⟨o4, rfl⟩
  | x :: xs, k, o4, hg, hr => by
    have hx : x.ok k := hr 0 (by simp)
    have hr' : Row (k + 1) xs := fun j hj => by
      have := hr (j + 1) (by simp; omega)
      simp only [List.getElem_cons_succ] at this
      rw [show k + 1 + j = k + (j + 1) by omega]
      exact this
    obtain ⟨o4', q⟩ := gr_loop (F := F) (N := N) xs (k + 1) (some x.d) (fun y hy => hg y (List.mem_cons_of_mem _ hy)) hr'
    refine ⟨o4', ?_⟩
    simp only [List.map_cons, forL]
    rw [show forB (gnm 4) grB x.d [some F, some N, some MANY, some (nD k), o4] = grB [some F, some N, some MANY, some (nD k), some x.d] from rfl, gr_step (hg x List.mem_cons_self) hx]
    rw [show k + (x :: xs).length = k + 1 + xs.length by simp only [List.length_cons]; omega]
    exact q
theorem good_row_ok {n : Nat} {r : List Nat} {ys : List Deed} {o : Nat} (W : Wr n r ys o) : m_law_good_row [rowD n ys o, nD n] = .ok (.bl true) := by
  obtain ⟨o4, q⟩ := gr_loop (F := rowD n ys o) (N := nD n) ys n none W.lg W.row
  have hl := W.len
  show fn 2 5 b__law_good_row [rowD n ys o, nD n] = _
  rw [fn2]
  unfold b__law_good_row
  have a1 : tst (un (oisi CS [(.cls "Row")]) (var 0)) [some (rowD n ys o), some (nD n), none, none, none] = .ok true := rfl
  have a2 : tst (call m_law_integer (argC (un (oattr ["Row", "Machine"] "inputs") (var 0)) argN)) [some (rowD n ys o), some (nD n), none, none, none] = .ok true := rfl
  have a3 : tst (bin Py.one (un (oattr ["Row", "Machine"] "inputs") (var 0)) (var 1)) [some (rowD n ys o), some (nD n), none, none, none] = .ok false := by
    show (Py.one (nD n) (nD n) >>= truthy) = _
    rw [nat_ne, decide_eq_true rfl]
    rfl
  have b1 : tst (un (oisi CS [.tup]) (un (oattr ["Row"] "deeds") (var 0))) [some (rowD n ys o), some (nD n), none, none, none] = .ok true := rfl
  have b2 : tst (bin ogt (un blen (un (oattr ["Row"] "deeds") (var 0))) (cst (.int 10000))) [some (rowD n ys o), some (nD n), none, none, none] = .ok false := by
    have e : un blen (un (oattr ["Row"] "deeds") (var 0)) [some (rowD n ys o), some (nD n), none, none, none] = .ok (nD ys.length) := by
      rw [← List.length_map (f := Deed.d) (as := ys)]
      rfl
    show ((un blen (un (oattr ["Row"] "deeds") (var 0)) [some (rowD n ys o), some (nD n), none, none, none] >>= fun x => Res.ok (D.int 10000) >>= fun y => ogt x y) >>= truthy) = _
    rw [e, bind_ok, bind_ok]
    show (Res.ok (D.bl (decide ((10000 : Int) < (ys.length : Int)))) >>= truthy) = _
    rw [decide_eq_false (by omega)]
    rfl
  refine (congrArg done ((chk_pass (orT_ff (notT_t a1) (orT_ff (notT_t a2) a3))).trans ((chk_pass (orT_ff (notT_t b1) b2)).trans ((asg_pass (d := MANY) rfl).trans ((asg_pass (d := nD n) rfl).trans ((for_pass (xs := ys.map Deed.d) (e' := [some (rowD n ys o), some (nD n), some MANY, some (nD (n + ys.length)), o4]) rfl q).trans ?_)))))).trans (done_ret _)
  have hn := numbers_ok (W := .lst [nD o]) (ps := [o]) (k := n + ys.length) rfl fun a ha => by rw [List.mem_singleton.mp ha]; exact W.lt
  rw [ret_eq]
  show (m_law_numbers [.lst [nD o], nD (n + ys.length)] >>= _) = _
  rw [hn]
  rfl
end Py.U
namespace Py.U
open PySem
/-! ### the law's bit of a row -/
theorem ite_t {t : TM} {a b : SM} {e : Env} (h : t e = .ok true) : Py.ite t a b e = a e := by unfold Py.ite; rw [h]; rfl
theorem ite_f {t : TM} {a b : SM} {e : Env} (h : t e = .ok false) : Py.ite t a b e = b e := by unfold Py.ite; rw [h]; rfl
theorem fdiv_n {a b : Nat} (h0 : 0 < b) (h1 : b < 1000000) : ofdiv (nD a) (nD b) = .ok (nD (a / b)) := by
  unfold nD
  rw [ofdiv_ii (by omega)]
  rfl
def lbB : SM := (Py.ite (tst (bin oeq (bin oidx (var 3) (cst (.int 0))) (cst (.str "zero")))) (app 2 (cst (.int 0))) (Py.ite (tst (bin oeq (bin oidx (var 3) (cst (.int 0))) (cst (.str "ones")))) (app 2 (cst (.int 1))) (Py.ite (tst (bin oeq (bin oidx (var 3) (cst (.int 0))) (cst (.str "not")))) (app 2 (bin osub (cst (.int 1)) (bin oidx (var 2) (bin oidx (var 3) (cst (.int 1)))))) (Py.ite (tst (bin oeq (bin oidx (var 3) (cst (.int 0))) (cst (.str "and")))) (app 2 (bin oand (bin oidx (var 2) (bin oidx (var 3) (cst (.int 1)))) (bin oidx (var 2) (bin oidx (var 3) (cst (.int 2)))))) (Py.ite (tst (bin oeq (bin oidx (var 3) (cst (.int 0))) (cst (.str "or")))) (app 2 (bin oor (bin oidx (var 2) (bin oidx (var 3) (cst (.int 1)))) (bin oidx (var 2) (bin oidx (var 3) (cst (.int 2)))))) (app 2 (bin oxor (bin oidx (var 2) (bin oidx (var 3) (cst (.int 1)))) (bin oidx (var 2) (bin oidx (var 3) (cst (.int 2)))))))))))
abbrev lbE (F Y : D) (bs : List Nat) (o3 : Option D) : Env := [some F, some Y, some (.lst (bs.map nD)), o3, none]
theorem lb_app {F Y : D} {bs : List Nat} {o3 : Option D} {m : EM} {v : Nat} (hz : bs.length ≤ 5000) (h : m (lbE F Y bs o3) = .ok (nD v)) : app 2 m (lbE F Y bs o3) = .ok (.next (lbE F Y (bs ++ [v]) o3)) := by
  have hl : (bs.map nD).length < SZ := by
    have : SZ = 16777216 := rfl
    rw [List.length_map]
    omega
  have em : bs.map nD ++ [nD v] = (bs ++ [v]).map nD := by simp
  rw [app_eq, var_at (d := .lst (bs.map nD)) rfl, bind_ok]
  dsimp only
  rw [h, bind_ok, if_pos hl, em]
  rfl
theorem lb_step {F Y : D} {bs : List Nat} (hb : Bits bs) (hz : bs.length ≤ 5000) {x : Deed} (hg : x.lg = true) (hx : x.ok bs.length) : lbB (lbE F Y bs (some x.d)) = .ok (.next (lbE F Y (bs ++ [x.bit0 bs]) (some x.d))) := by
  have at2 : ∀ (a : Nat) (k : EM), a < bs.length → k (lbE F Y bs (some x.d)) = .ok (nD a) → bin oidx (var 2) k (lbE F Y bs (some x.d)) = .ok (nD (at0 bs a)) := fun a k ha hk => by
    show (var 2 (lbE F Y bs (some x.d)) >>= fun u => k (lbE F Y bs (some x.d)) >>= fun v => oidx u v) = _
    rw [var_at (d := .lst (bs.map nD)) rfl, bind_ok, hk, bind_ok, bits_at ha]
  unfold lbB
  cases x with
  | zero => exact (ite_t rfl).trans (lb_app (v := 0) hz rfl)
  | ones => exact (ite_f rfl).trans ((ite_t rfl).trans (lb_app (v := 1) hz rfl))
  | inv a =>
    refine (ite_f rfl).trans ((ite_f rfl).trans ((ite_t rfl).trans (lb_app (v := 1 - at0 bs a) hz ?_)))
    show (Res.ok (D.int 1) >>= fun u => bin oidx (var 2) (bin oidx (var 3) (cst (.int 1))) (lbE F Y bs (some (Deed.inv a).d)) >>= fun v => osub u v) = _
    rw [bind_ok, at2 a _ hx rfl, bind_ok]
    rcases at0_01 hb a with e | e <;> rw [e] <;> rfl
  | and a b =>
    refine (ite_f rfl).trans ((ite_f rfl).trans ((ite_f rfl).trans ((ite_t rfl).trans (lb_app (v := if at0 bs a + at0 bs b = 2 then 1 else 0) hz ?_))))
    show (bin oidx (var 2) (bin oidx (var 3) (cst (.int 1))) (lbE F Y bs (some (Deed.and a b).d)) >>= fun u => bin oidx (var 2) (bin oidx (var 3) (cst (.int 2))) (lbE F Y bs (some (Deed.and a b).d)) >>= fun v => oand u v) = _
    rw [at2 a _ hx.1 rfl, bind_ok, at2 b _ hx.2 rfl, bind_ok]
    rcases at0_01 hb a with e | e <;> rcases at0_01 hb b with f | f <;> rw [e, f] <;> rfl
  | or a b =>
    refine (ite_f rfl).trans ((ite_f rfl).trans ((ite_f rfl).trans ((ite_f rfl).trans ((ite_t rfl).trans (lb_app (v := if 0 < at0 bs a + at0 bs b then 1 else 0) hz ?_)))))
    show (bin oidx (var 2) (bin oidx (var 3) (cst (.int 1))) (lbE F Y bs (some (Deed.or a b).d)) >>= fun u => bin oidx (var 2) (bin oidx (var 3) (cst (.int 2))) (lbE F Y bs (some (Deed.or a b).d)) >>= fun v => oor u v) = _
    rw [at2 a _ hx.1 rfl, bind_ok, at2 b _ hx.2 rfl, bind_ok]
    rcases at0_01 hb a with e | e <;> rcases at0_01 hb b with f | f <;> rw [e, f] <;> rfl
  | _ => cases hg
theorem lb_loop {F Y : D} : ∀ (xs : List Deed) (bs : List Nat) (o3 : Option D), Bits bs → bs.length + xs.length ≤ 5000 → (∀ x ∈ xs, x.lg = true) → Row bs.length xs → ∃ o3', forL (forB (gnm 3) lbB) (xs.map Deed.d) (lbE F Y bs o3) = .ok (.next (lbE F Y (xs.foldl (stp []) (bs, [])).1 o3'))
  | [], bs, o3, _, _, _, _ => ⟨o3, rfl⟩
  | x :: xs, bs, o3, hb, hz, hg, hr => by
    simp only [List.length_cons] at hz
    have hgx := hg x List.mem_cons_self
    have hx : x.ok bs.length := hr 0 (by simp)
    have hr' : Row (bs ++ [x.bit0 bs]).length xs := fun j hj => by
      have := hr (j + 1) (by simp; omega)
      simp only [List.getElem_cons_succ] at this
      rw [show (bs ++ [x.bit0 bs]).length + j = bs.length + (j + 1) by simp; omega]
      exact this
    obtain ⟨o3', q⟩ := lb_loop (F := F) (Y := Y) xs (bs ++ [x.bit0 bs]) (some x.d) (hb.snoc' (bit0_01 hb x)) (by simp; omega) (fun y hy => hg y (List.mem_cons_of_mem _ hy)) hr'
    refine ⟨o3', ?_⟩
    simp only [List.map_cons, forL, List.foldl_cons]
    rw [show forB (gnm 3) lbB x.d (lbE F Y bs o3) = lbB (lbE F Y bs (some x.d)) from rfl, lb_step hb (by omega) hgx hx, stp_u (lg_mark hgx)]
    exact q
theorem bit_ok {n : Nat} (h1 : 1 ≤ n) (h3 : n ≤ 3) {r : List Nat} {ys : List Deed} {o : Nat} (W : Wr n r ys o) {y : Nat} (hy : y < 2 ^ n) : m_law_bit [rowD n ys o, nD y] = .ok (nD (at1 r y)) := by
  have hl := W.len
  obtain ⟨o3, q⟩ := lb_loop (F := rowD n ys o) (Y := nD y) ys (lb n y) none (lb_bits n y) (by rw [lb_len]; omega) W.lg (by rw [lb_len]; exact W.row)
  show fn 2 5 b__law_bit [rowD n ys o, nD y] = _
  rw [fn2]
  unfold b__law_bit
  have hc : lcE (irng1 (un (oattr ["Row", "Machine"] "inputs") (var 0))) [4] (gnm 4) yes (bin oand (bin ofdiv (var 1) (bin oidx (tupE (argC (cst (.int 1)) (argC (cst (.int 2)) (argC (cst (.int 4)) argN)))) (var 4))) (cst (.int 1))) [some (rowD n ys o), some (nD y), none, none, none] = .ok (.lst ((lb n y).map nD)) := by
    have e : (lb n y).map nD = (List.range n).map fun i => nD (y / 2 ^ i % 2) := by unfold lb; rw [List.map_map]; rfl
    rw [e]
    refine lc_mapI (k := nD) (ys := List.range n) (irng1_nat (n := n) rfl (Nat.lt_of_le_of_lt h3 (by decide))) (le_sz (by rw [List.length_range]; omega)) fun i hi => ⟨_, rfl, ?_⟩
    have hi := List.mem_range.mp hi
    have hp : oidx (.tup [.int 1, .int 2, .int 4]) (nD i) = .ok (nD (2 ^ i)) := by
      have : i = 0 ∨ i = 1 ∨ i = 2 := by omega
      rcases this with rfl | rfl | rfl <;> rfl
    show ((Res.ok (nD y) >>= fun u => (oidx (.tup [.int 1, .int 2, .int 4]) (nD i)) >>= fun v => ofdiv u v) >>= fun u => Res.ok (D.int 1) >>= fun v => oand u v) = _
    have h2 : 2 ^ i ≤ 4 := by
      have : i = 0 ∨ i = 1 ∨ i = 2 := by omega
      rcases this with rfl | rfl | rfl <;> decide
    rw [bind_ok, hp, bind_ok, fdiv_n (Nat.two_pow_pos i) (by omega), bind_ok, bind_ok, bitN2]
  refine (congrArg done ((asg_pass (d := .lst ((lb n y).map nD)) hc).trans ((for_pass (xs := ys.map Deed.d) (e' := lbE (rowD n ys o) (nD y) (ys.foldl (stp []) (lb n y, [])).1 o3) rfl q).trans ?_))).trans (done_ret _)
  have hlen : o < ((ys.foldl (stp []) (lb n y, [])).1).length := by
    have := run_len [] (lb n y) ys
    unfold runD at this
    rw [this, lb_len]
    exact W.lt
  have hv : at0 (ys.foldl (stp []) (lb n y, [])).1 o = at1 r y := W.val y hy
  rw [ret_eq]
  show (oidx (.lst ((ys.foldl (stp []) (lb n y, [])).1.map nD)) (nD o) >>= _) = _
  rw [bits_at hlen, hv]
  rfl
/-! ### the law's judgement -/
def rgB : SM := (Py.ite (tst (bin Py.one (call m_law_bit (argC (var 0) (argC (var 4) argN))) (bin oidx (bin oidx (var 3) (cst (.int 0))) (var 4)))) (ret (cst (.bl false))) skip)
theorem right_ok {n S : Nat} {nx os : List (List Nat)} (h1 : 1 ≤ n) (h3 : n ≤ 3) (ho : Tbl S (2 ^ n) 2 os) (h0 : 0 < S) {ys : List Deed} {o : Nat} (W : Wr n (rw1 os 0) ys o) (hs : m_law_one_state [.lst (nx.map rD), .lst (os.map rD)] = .ok (.bl true)) : m_law_right [rowD n ys o, nD n, .lst (nx.map rD), .lst (os.map rD)] = .ok (.bl true) := by
  have p8 := pow3 h1 h3
  have hr := (ho.at h0)
  have hr1 : (rw1 os 0).length = 2 ^ n := hr.2.1
  have ix0 : oidx (.lst (os.map rD)) (.int 0) = .ok (rD (rw1 os 0)) := by
    refine oidx_l (k := 0) ?_
    rw [List.getElem?_map, hr.1]
    rfl
  show done (b__law_right [some (rowD n ys o), some (nD n), some (.lst (nx.map rD)), some (.lst (os.map rD)), none]) = _
  unfold b__law_right
  generalize hNX : D.lst (nx.map rD) = NX at *
  generalize hOS : D.lst (os.map rD) = OS at *
  have a1 : tst (call m_law_one_state (argC (var 2) (argC (var 3) argN))) [some (rowD n ys o), some (nD n), some NX, some OS, none] = .ok true := by
    show (m_law_one_state [NX, OS] >>= truthy) = _
    rw [hs]
    rfl
  have a2 : tst (call m_law_good_row (argC (var 0) (argC (var 1) argN))) [some (rowD n ys o), some (nD n), some NX, some OS, none] = .ok true := by
    show (m_law_good_row [rowD n ys o, nD n] >>= truthy) = _
    rw [good_row_ok W]
    rfl
  have hi : irng1 (un blen (bin oidx (var 3) (cst (.int 0)))) [some (rowD n ys o), some (nD n), some NX, some OS, none] = .ok ((List.range (2 ^ n)).map nD) := by
    have : un blen (bin oidx (var 3) (cst (.int 0))) [some (rowD n ys o), some (nD n), some NX, some OS, none] = .ok (.int ((2 ^ n : Nat) : Int)) := by
      show ((Res.ok OS >>= fun u => Res.ok (D.int 0) >>= fun v => oidx u v) >>= blen) = _
      rw [bind_ok, bind_ok, ix0, bind_ok, ← hr1, ← List.length_map (f := nD) (as := rw1 os 0)]
      rfl
    exact irng1_nat this (Nat.lt_of_le_of_lt p8 (by decide))
  obtain ⟨e', q, ⟨o4, rfl⟩⟩ := forR_inv (b := forB (gnm 4) rgB) (fun _ e => ∃ o4, e = [some (rowD n ys o), some (nD n), some NX, some OS, o4]) (n := 2 ^ n) (e := [some (rowD n ys o), some (nD n), some NX, some OS, none]) ⟨none, rfl⟩ fun i e hi he => by
    obtain ⟨o4, rfl⟩ := he
    refine ⟨_, ?_, some (nD i), rfl⟩
    show rgB [some (rowD n ys o), some (nD n), some NX, some OS, some (nD i)] = _
    refine ite_f ?_
    show ((m_law_bit [rowD n ys o, nD i] >>= fun u => ((Res.ok OS >>= fun u => Res.ok (D.int 0) >>= fun v => oidx u v) >>= fun u => Res.ok (nD i) >>= fun v => oidx u v) >>= fun v => Py.one u v) >>= truthy) = _
    rw [bit_ok h1 h3 W hi, bind_ok, bind_ok, bind_ok, ix0, bind_ok, bind_ok, idx_nT (by omega), bind_ok, nat_ne, decide_eq_true rfl]
    rfl
  refine (congrArg Py.done ((chk_pass (notT_t a1)).trans ((chk_pass (notT_t a2)).trans ((for_pass hi q).trans rfl)))).trans (done_ret _)
theorem right_none {n : Nat} {NX OS : D} (hs : m_law_one_state [NX, OS] = .ok (.bl false)) : m_law_right [.non, nD n, NX, OS] = .ok (.bl true) := by
  show done (b__law_right [some .non, some (nD n), some NX, some OS, none]) = _
  unfold b__law_right
  have a1 : tst (call m_law_one_state (argC (var 2) (argC (var 3) argN))) [some .non, some (nD n), some NX, some OS, none] = .ok false := by
    show (m_law_one_state [NX, OS] >>= truthy) = _
    rw [hs]
    rfl
  exact (congrArg Py.done (hit (notT_f a1) rfl)).trans (done_ret _)
end Py.U
/-! How long the readings found are. -/
/-! The least machine's states beside what they were made of. No program in sight. -/
namespace Py.U
section
variable {α : Type} [DecidableEq α]
/-- where it stands -/
def ixF (F : List α) (q : α) : Nat := F.idxOf q
variable {succ : α → List α} {outv : α → List Nat} {F : List α} {L : Nat}
theorem ixF_at {p : α} (hp : p ∈ F) : ixF F p < F.length ∧ F[ixF F p]? = some p := by
  have h := List.idxOf_lt_length_of_mem hp
  refine ⟨h, ?_⟩
  have h' : ixF F p < F.length := h
  rw [List.getElem?_eq_getElem h']
  exact congrArg some (List.getElem_idxOf h)
theorem nx_at (hc : CldU succ F F.length) {p q : α} (hp : p ∈ F) {l : Nat} (hq : (succ p)[l]? = some q) : at1 (rw1 (F.map (cn succ F)) (ixF F p)) l = ixF F q ∧ q ∈ F := by
  obtain ⟨h1, h2⟩ := ixF_at hp
  have r2 : rw1 (F.map (cn succ F)) (ixF F p) = cn succ F p := by
    unfold rw1
    rw [List.getD_eq_getElem?_getD, List.getElem?_map, h2]
    rfl
  refine ⟨?_, hc _ p h1 h2 q (List.mem_of_getElem? hq)⟩
  rw [r2]
  unfold at1 cn
  rw [List.getD_eq_getElem?_getD, List.getElem?_map, hq]
  rfl
theorem os_at {p : α} (hp : p ∈ F) : rw1 (F.map outv) (ixF F p) = outv p := by
  obtain ⟨h1, h2⟩ := ixF_at hp
  unfold rw1
  rw [List.getD_eq_getElem?_getD, List.getElem?_map, h2]
  rfl
/-- a state of the least machine and one it stands for -/
def QQ (F : List α) (nx os : List (List Nat)) (i : Nat) (p : α) : Prop := i < (fndM nx os).length ∧ p ∈ F ∧ at1 (clsM nx os) ((fndM nx os).getD i 0) = at1 (clsM nx os) (ixF F p)
theorem QQ.inj {nx os : List (List Nat)} {S : Nat} (h : Tbl S L S nx) (ho : os.length = S) (h0 : 0 < S) {i j : Nat} {p : α} (a : QQ F nx os i p) (b : QQ F nx os j p) : i = j := by
  obtain ⟨g1, _⟩ := fndM_ok h ho h0
  have e := a.2.2.trans b.2.2.symm
  have hi' : i < (fndM nx os).length := a.1
  have hj' : j < (fndM nx os).length := b.1
  have hi : i < ((fndM nx os).map (at1 (clsM nx os))).length := by rw [List.length_map]; exact a.1
  have hj : j < ((fndM nx os).map (at1 (clsM nx os))).length := by rw [List.length_map]; exact b.1
  refine (List.getElem_inj (h₀ := hi) (h₁ := hj) g1.nd).mp ?_
  rw [List.getElem_map, List.getElem_map]
  have ei : (fndM nx os).getD i 0 = (fndM nx os)[i]'hi' := by rw [List.getD_eq_getElem?_getD, List.getElem?_eq_getElem hi']; rfl
  have ej : (fndM nx os).getD j 0 = (fndM nx os)[j]'hj' := by rw [List.getD_eq_getElem?_getD, List.getElem?_eq_getElem hj']; rfl
  rw [← ei, ← ej, e]
theorem QQ.step (hc : CldU succ F F.length) {os : List (List Nat)} (h : Tbl F.length L F.length (F.map (cn succ F))) (ho : os.length = F.length) {i l : Nat} {p q : α} (a : QQ F (F.map (cn succ F)) os i p) (hl : l < L) (hq : (succ p)[l]? = some q) : QQ F (F.map (cn succ F)) os (at1 (rw1 (lsN (F.map (cn succ F)) os) i) l) q := by
  obtain ⟨a1, a2, a3⟩ := a
  obtain ⟨h1, h2⟩ := ixF_at a2
  have h0 : 0 < F.length := by omega
  obtain ⟨b1, b2⟩ := ls_goal h ho h0 a1 hl
  obtain ⟨c1, c2⟩ := nx_at hc a2 hq
  refine ⟨b1, c2, ?_⟩
  rw [b2, cls_goal h ho h0 (fnd_lt h ho h0 a1) h1 hl a3, c1]
theorem QQ.out {nx : List (List Nat)} (h : Tbl F.length L F.length nx) {i : Nat} {p : α} (a : QQ F nx (F.map outv) i p) : rw1 (lsO nx (F.map outv)) i = outv p := by
  obtain ⟨a1, a2, a3⟩ := a
  obtain ⟨h1, h2⟩ := ixF_at a2
  have h0 : 0 < F.length := by omega
  have ho : (F.map outv).length = F.length := by simp
  have er : RefO F.length (F.map outv) (clsM nx (F.map outv)) := refO_cls h _ _ (refO_numb ho)
  have e := er _ _ (fnd_lt h ho h0 a1) h1 a3
  have e2 : rw1 (lsO nx (F.map outv)) i = rw1 (F.map outv) ((fndM nx (F.map outv)).getD i 0) := rw1_map a1
  rw [e2, e, os_at a2]
theorem QQ.all {nx os : List (List Nat)} (hn : F.Nodup) (h0 : 0 < F.length) (h : Tbl F.length L F.length nx) (ho : os.length = F.length) {i : Nat} (hi : i < (fndM nx os).length) : ∃ p, QQ F nx os i p := by
  have hlt := fnd_lt h ho h0 hi
  refine ⟨F[(fndM nx os).getD i 0], hi, List.getElem_mem hlt, ?_⟩
  have : ixF F F[(fndM nx os).getD i 0] = (fndM nx os).getD i 0 := by
    unfold ixF
    exact hn.idxOf_getElem _ hlt
  rw [this]
theorem QQ.zero {nx os : List (List Nat)} {p : α} {r : List α} (h : Tbl (p :: r).length L (p :: r).length nx) (ho : os.length = (p :: r).length) : QQ (p :: r) nx os 0 p := by
  obtain ⟨_, _, _, r2, e⟩ := fndM_ok h ho (by simp)
  refine ⟨by rw [e]; simp, List.mem_cons_self, ?_⟩
  have : ixF (p :: r) p = 0 := by
    unfold ixF
    simp
  rw [this, e]
  rfl
end
end Py.U
/-! Machines that write alike have one least machine. No program in sight. -/
namespace Py.U
section
variable {S L B : Nat} {nx os : List (List Nat)}
/-- states that write alike are of one class -/
theorem cls_of_wr (h : Tbl S L S nx) (ho : Tbl S L B os) (h0 : 0 < S) {s s' : Nat} (hs : s < S) (hs' : s' < S) (e : ∀ w : List Nat, (∀ l ∈ w, l < L) → wr nx os s w = wr nx os s' w) : at1 (clsM nx os) s = at1 (clsM nx os) s' := by
  have hm := met_numb os
  rw [ho.len] at hm
  obtain ⟨j', _, e2⟩ := cls_words (os := os) h h0 nx.length 1 (numb os) hm fun s s' hs hs' w => by
    refine numb_same (by rw [ho.len]; exact hs) (by rw [ho.len]; exact hs') ?_
    have r := row_eq (ho.at hs).2.1 (ho.at hs').2.1 fun l hl => Eqw.bit (j := 0) w hl
    rwa [rw1_get (by rw [ho.len]; exact hs), rw1_get (by rw [ho.len]; exact hs')] at r
  exact e2 s s' hs hs' fun w _ hw => e w hw
end
theorem idx_pw {C1 C2 : Nat → Nat} {x y : Nat} : ∀ (f g : List Nat), f.length = g.length → (∀ i, i < f.length → (C1 (f.getD i 0) = x ↔ C2 (g.getD i 0) = y)) → (f.map C1).idxOf x = (g.map C2).idxOf y
  | [], [], _, _ => rfl
  | a :: f, [], h, _ => by simp at h
  | [], b :: g, h, _ => by simp at h
  | a :: f, b :: g, h, e => by
    have e0 := e 0 (by simp)
    have ih := idx_pw f g (by simpa using h) fun i hi => by
      have := e (i + 1) (by simpa using hi)
      simpa using this
    simp only [List.getD_cons_zero] at e0
    simp only [List.map_cons, List.idxOf_cons]
    by_cases c : C1 a = x
    · have d := e0.mp c
      simp [c, d]
    · have d : ¬ C2 b = y := fun z => c (e0.mpr z)
      have c' : (C1 a == x) = false := by simpa using c
      have d' : (C2 b == y) = false := by simpa using d
      rw [c', d']
      simp [ih]
section
variable {S1 S2 L B : Nat} {nx1 os1 nx2 os2 : List (List Nat)}
/-- all words are written alike -/
def WW (L : Nat) (nx1 os1 nx2 os2 : List (List Nat)) (s t : Nat) : Prop := ∀ w : List Nat, (∀ l ∈ w, l < L) → wr nx1 os1 s w = wr nx2 os2 t w
theorem WW.goal {s t l : Nat} (h : WW L nx1 os1 nx2 os2 s t) (hl : l < L) : WW L nx1 os1 nx2 os2 (at1 (rw1 nx1 s) l) (at1 (rw1 nx2 t) l) := fun w hw => by
  have q := h (l :: w) (fun x hx => by
    rcases List.mem_cons.mp hx with rfl | hx
    · exact hl
    · exact hw x hx)
  unfold wr at q
  exact (List.cons.inj q).2
theorem WW.bit {s t l : Nat} (h : WW L nx1 os1 nx2 os2 s t) (hl : l < L) : at1 (rw1 os1 s) l = at1 (rw1 os2 t) l := by
  have q := h [l] (fun x hx => by rw [List.mem_singleton.mp hx]; exact hl)
  unfold wr at q
  exact (List.cons.inj q).1
theorem WW.row (o1 : Tbl S1 L B os1) (o2 : Tbl S2 L B os2) {s t : Nat} (hs : s < S1) (ht : t < S2) (h : WW L nx1 os1 nx2 os2 s t) : rw1 os1 s = rw1 os2 t := row_eq (o1.at hs).2.1 (o2.at ht).2.1 fun l hl => h.bit hl
theorem WW.cls (h1 : Tbl S1 L S1 nx1) (h2 : Tbl S2 L S2 nx2) (o1 : Tbl S1 L B os1) (o2 : Tbl S2 L B os2) {s s' t t' : Nat} (hs : s < S1) (hs' : s' < S1) (ht : t < S2) (ht' : t' < S2) (h : WW L nx1 os1 nx2 os2 s t) (h' : WW L nx1 os1 nx2 os2 s' t') : at1 (clsM nx1 os1) s = at1 (clsM nx1 os1) s' ↔ at1 (clsM nx2 os2) t = at1 (clsM nx2 os2) t' :=
  ⟨fun e => cls_of_wr h2 o2 (by omega) ht ht' fun w hw => by rw [← h w hw, ← h' w hw, cls_wr h1 o1 (by omega) w hw s s' hs hs' e],
   fun e => cls_of_wr h1 o1 (by omega) hs hs' fun w hw => by rw [h w hw, h' w hw, cls_wr h2 o2 (by omega) w hw t t' ht ht' e]⟩
/-- two lists of states, place by place -/
structure PW (S1 S2 L : Nat) (nx1 os1 nx2 os2 : List (List Nat)) (f g : List Nat) : Prop where
  len : f.length = g.length
  lt1 : ∀ s ∈ f, s < S1
  lt2 : ∀ t ∈ g, t < S2
  ww : ∀ i, i < f.length → WW L nx1 os1 nx2 os2 (f.getD i 0) (g.getD i 0)
theorem getD_mem {f : List Nat} {i : Nat} (h : i < f.length) : f.getD i 0 ∈ f := by
  rw [List.getD_eq_getElem?_getD, List.getElem?_eq_getElem h]
  exact List.getElem_mem h
theorem PW.idx (h1 : Tbl S1 L S1 nx1) (h2 : Tbl S2 L S2 nx2) (o1 : Tbl S1 L B os1) (o2 : Tbl S2 L B os2) {f g : List Nat} (p : PW S1 S2 L nx1 os1 nx2 os2 f g) {s t : Nat} (hs : s < S1) (ht : t < S2) (h : WW L nx1 os1 nx2 os2 s t) : (f.map (at1 (clsM nx1 os1))).idxOf (at1 (clsM nx1 os1) s) = (g.map (at1 (clsM nx2 os2))).idxOf (at1 (clsM nx2 os2) t) :=
  idx_pw f g p.len fun i hi => WW.cls h1 h2 o1 o2 (p.lt1 _ (getD_mem hi)) hs (p.lt2 _ (getD_mem (by rw [← p.len]; exact hi))) ht (p.ww i hi) h
theorem PW.step (h1 : Tbl S1 L S1 nx1) (h2 : Tbl S2 L S2 nx2) (o1 : Tbl S1 L B os1) (o2 : Tbl S2 L B os2) {f g : List Nat} (p : PW S1 S2 L nx1 os1 nx2 os2 f g) {s t : Nat} (hs : s < S1) (ht : t < S2) (h : WW L nx1 os1 nx2 os2 s t) : PW S1 S2 L nx1 os1 nx2 os2 (stepT (at1 (clsM nx1 os1)) f s) (stepT (at1 (clsM nx2 os2)) g t) := by
  have e := p.idx h1 h2 o1 o2 hs ht h
  have i1 : at1 (clsM nx1 os1) s ∈ f.map (at1 (clsM nx1 os1)) ↔ at1 (clsM nx2 os2) t ∈ g.map (at1 (clsM nx2 os2)) := by
    rw [← List.idxOf_lt_length_iff, ← List.idxOf_lt_length_iff, e, List.length_map, List.length_map, p.len]
  unfold stepT
  by_cases c : at1 (clsM nx1 os1) s ∈ f.map (at1 (clsM nx1 os1))
  · rw [if_pos c, if_pos (i1.mp c)]
    exact p
  · rw [if_neg c, if_neg fun z => c (i1.mpr z)]
    refine ⟨by simp [p.len], fun x hx => ?_, fun x hx => ?_, fun i hi => ?_⟩
    · rcases List.mem_append.mp hx with q | q
      · exact p.lt1 x q
      · rw [List.mem_singleton.mp q]; exact hs
    · rcases List.mem_append.mp hx with q | q
      · exact p.lt2 x q
      · rw [List.mem_singleton.mp q]; exact ht
    · by_cases q : i < f.length
      · rw [getD_pre q, getD_pre (by rw [← p.len]; exact q)]
        exact p.ww i q
      · have ei : i = f.length := by simp at hi; omega
        have e1 : (f ++ [s]).getD i 0 = s := by
          rw [List.getD_eq_getElem?_getD, List.getElem?_append_right (by omega), ei, Nat.sub_self]
          rfl
        have e2 : (g ++ [t]).getD i 0 = t := by
          rw [List.getD_eq_getElem?_getD, List.getElem?_append_right (by rw [← p.len]; omega), ei, p.len, Nat.sub_self]
          rfl
        rw [e1, e2]
        exact h
end
end Py.U
/-! The first reading written unlike, and its length. No program in sight. -/
/-! Words of numbers, bit by bit. -/
/-! Numbers made of bits; the words of a reading, the letters of words; what a machine writes, place by place. No program in sight. -/
/-! One letter for ever: what is written in the end. No program in sight. -/
namespace Py.U
open PySem
section
variable {S L B : Nat} {nx os : List (List Nat)}
/-! ### states that are reached -/
theorem bfs_all {C : Nat → Nat} {P : Nat → Prop} (hP : ∀ p, P p → ∀ q ∈ nx.getD p [], P q) : ∀ (k : Nat) (f : List Nat) (a : Nat), (∀ x ∈ f, P x) → ∀ x ∈ bfsL C nx k f a, P x
  | 0, f, a, h => h
  | k + 1, f, a, h => by
    unfold bfsL
    by_cases ha : a < f.length
    · rw [if_pos ha]
      refine bfs_all hP k _ _ ?_
      have hs : P (f.getD a 0) := h _ (by
        rw [List.getD_eq_getElem?_getD, List.getElem?_eq_getElem ha]
        exact List.getElem_mem ha)
      have key : ∀ (ts f : List Nat), (∀ x ∈ f, P x) → (∀ t ∈ ts, P t) → ∀ x ∈ ts.foldl (stepT C) f, P x := by
        intro ts
        induction ts with
        | nil => exact fun f h _ => h
        | cons t ts ih =>
          intro f h ht
          refine ih _ (fun x hx => ?_) fun y hy => ht y (List.mem_cons_of_mem _ hy)
          unfold stepT at hx
          split at hx
          · exact h x hx
          · rcases List.mem_append.mp hx with hx | hx
            · exact h x hx
            · rw [List.mem_singleton.mp hx]
              exact ht t List.mem_cons_self
      exact key _ f h (hP _ hs)
    · rw [if_neg ha]
      exact h
end
end Py.U
namespace Py.U
open PySem
section
variable {S L B : Nat} {nx os : List (List Nat)}
/-! ### one state -/
/-- all states that are reached write the same line: the least machine has one state -/
theorem one_of (h : Tbl S L S nx) (ho : Tbl S L B os) (h0 : 0 < S) {X : Nat → Prop} (x0 : X 0) (hX : ∀ p, X p → ∀ q ∈ nx.getD p [], X q) (xs : ∀ p, X p → p < S) (he : ∀ p, X p → rw1 os p = rw1 os 0) : (fndM nx os).length = 1 := by
  obtain ⟨g1, _, _, r, g4⟩ := fndM_ok h ho.len h0
  have all : ∀ x ∈ fndM nx os, X x := bfs_all hX _ _ _ fun x hx => by rw [List.mem_singleton.mp hx]; exact x0
  have wrE : ∀ (w : List Nat) (s t : Nat), X s → X t → (∀ l ∈ w, l < L) → wr nx os s w = wr nx os t w := by
    intro w
    induction w with
    | nil => exact fun _ _ _ _ _ => rfl
    | cons l w ih =>
      intro s t hs ht hw
      have hl := hw l List.mem_cons_self
      simp only [wr]
      rw [he s hs, he t ht]
      congr 1
      refine ih _ _ (hX s hs _ ?_) (hX t ht _ ?_) fun k hk => hw k (List.mem_cons_of_mem _ hk)
      · exact at1_mem (r := rw1 nx s) (by rw [(h.at (xs s hs)).2.1]; exact hl)
      · exact at1_mem (r := rw1 nx t) (by rw [(h.at (xs t ht)).2.1]; exact hl)
  cases r with
  | nil => rw [g4]; rfl
  | cons x r =>
    have hx : X x := all x (by rw [g4]; simp)
    have hc := cls_of_wr h ho h0 (xs x hx) h0 fun w hw => wrE w x 0 hx x0 hw
    have nd := g1.nd
    rw [g4] at nd
    simp only [List.cons_append, List.nil_append, List.map_cons, List.nodup_cons, List.mem_cons, not_or] at nd
    exact absurd hc.symm nd.1.1
/-- the least machine has one state: all that is reached writes the same line -/
theorem of_one (h : Tbl S L S nx) (ho : Tbl S L B os) (h0 : 0 < S) (hl : (fndM nx os).length = 1) {s : Nat} (hs : ∀ Q : Nat → Prop, Q 0 → (∀ p, Q p → ∀ q ∈ nx.getD p [], Q q) → Q s) : rw1 os s = rw1 os 0 := by
  obtain ⟨g1, g2, _, r, g4⟩ := fndM_ok h ho.len h0
  have hf : fndM nx os = [0] := by
    rw [g4] at hl ⊢
    cases r with
    | nil => rfl
    | cons _ _ => simp at hl
  have key := hs (fun p => p < S ∧ at1 (clsM nx os) p = at1 (clsM nx os) 0) ⟨h0, rfl⟩ fun p ⟨hp, e⟩ q hq => by
    have hq' : q ∈ rw1 nx p := hq
    have ha := h.at hp
    obtain ⟨l, hl, e2⟩ := List.getElem_of_mem hq'
    have e3 : at1 (rw1 nx p) l = q := by
      unfold at1
      rw [List.getD_eq_getElem?_getD, List.getElem?_eq_getElem hl]
      exact e2
    have hlL : l < L := by rw [← ha.2.1]; exact hl
    refine ⟨ha.2.2 q hq', ?_⟩
    have e4 := cls_goal h ho.len h0 hp h0 hlL e
    rw [e3] at e4
    have h02 := h.at h0
    have e5 := g2 0 (by rw [hf]; simp) (at1 (rw1 nx 0) l) (by
      rw [hf]
      exact at1_mem (r := rw1 nx 0) (by rw [h02.2.1]; exact hlL))
    rw [hf] at e5
    have e6 : at1 (clsM nx os) (at1 (rw1 nx 0) l) = at1 (clsM nx os) 0 := by simpa using e5
    exact e4.trans e6
  obtain ⟨k1, k2⟩ := key
  have hi : 0 < (fndM nx os).length := by omega
  have e0 : (fndM nx os).getD 0 0 = 0 := by rw [hf]; rfl
  have a := (ho.at k1).2.1
  have b := (ho.at h0).2.1
  apply List.ext_getElem (by rw [a, b])
  intro l h1 h2
  have hlL : l < L := by omega
  have w1 := ls_wr h ho h0 [l] (by simpa using hlL) 0 s hi k1 (by rw [e0, k2])
  have w2 := ls_wr h ho h0 [l] (by simpa using hlL) 0 0 hi h0 (by rw [e0])
  have w3 := w1.symm.trans w2
  simp only [wr, List.cons.injEq, and_true] at w3
  unfold at1 at w3
  rw [List.getD_eq_getElem?_getD, List.getElem?_eq_getElem h1, List.getD_eq_getElem?_getD, List.getElem?_eq_getElem h2] at w3
  exact w3
end
end Py.U
namespace Py.U
open PySem
theorem pl_nD (k : Nat) (x : Nat) : pl k (nD x) = true := by cases k <;> rfl
theorem plain_rD (r : List Nat) : plain (rD r) = true := by
  show pl 64 (.tup (r.map nD)) = true
  simp only [pl, List.all_map, List.all_eq_true]
  exact fun x _ => pl_nD _ x
theorem one_rD (r r' : List Nat) : Py.one (rD r) (rD r') = .ok (.bl (!decide (r = r'))) := by
  unfold Py.one
  rw [plain_rD, plain_rD]
  show Res.ok (D.bl (!eqv (rD r) (rD r'))) = _
  have : eqv (rD r) (rD r') = decide (r = r') := eqvL_nums r r'
  rw [this]
structure MetD (kvs : List (D × D)) (ln : List Nat) : Prop where
  nk : NK kvs
  has : ∀ j, hasN kvs j = decide (j ∈ ln)
  len : kvs.length ≤ ln.length
abbrev osE (NX OS : D) (kvs : List (D × D)) (ln : List Nat) (o4 o5 : Option D) : Env := [some NX, some OS, some (.dic false kvs), some (.lst (ln.map nD)), o4, o5]
def osI : SM := (Py.ite (tst (bin onotin (var 5) (var 2))) (seq (setL 2 (var 5) (cst (.bl true))) (app 3 (var 5))) skip)
def osB : SM := (Py.ite (tst (bin olt (var 4) (un blen (var 3)))) (seq (Py.ite (tst (bin Py.one (bin oidx (var 1) (bin oidx (var 3) (var 4))) (bin oidx (var 1) (cst (.int 0))))) (ret (cst (.bl false))) skip)
  (for_ (iseq (bin oidx (var 0) (bin oidx (var 3) (var 4)))) (gnm 5) osI)) skip)
section
variable {S L : Nat} {nx os : List (List Nat)} {NX OS : D}
/-- what is reached from state 0 -/
def Rch (nx : List (List Nat)) (s : Nat) : Prop := ∀ Q : Nat → Prop, Q 0 → (∀ p, Q p → ∀ q ∈ nx.getD p [], Q q) → Q s
theorem in_loop (hS : S ≤ 999) {o4 : Option D} : ∀ (ts : List Nat) (kvs : List (D × D)) (ln : List Nat) (o5 : Option D), MetD kvs ln → ln.Nodup → (∀ x ∈ ln, x < S) → (∀ t ∈ ts, t < S) →
    ∃ kvs' u o5', forL (forB (gnm 5) osI) (ts.map nD) (osE NX OS kvs ln o4 o5) = .ok (.next (osE NX OS kvs' (ln ++ u) o4 o5')) ∧ MetD kvs' (ln ++ u) ∧ (ln ++ u).Nodup ∧ (∀ x ∈ u, x ∈ ts) ∧ ∀ t ∈ ts, t ∈ ln ++ u
  | [], kvs, ln, o5, M, nd, _, _ => ⟨kvs, [], o5, by rw [List.append_nil]; rfl, by rw [List.append_nil]; exact M, by rw [List.append_nil]; exact nd, by simp, by simp⟩
  | t :: ts, kvs, ln, o5, M, nd, hl, ht => by
    have ht0 := ht t List.mem_cons_self
    have hlen : ln.length ≤ S := Fnd.len (C := id) (n := S) ⟨by simpa using nd, hl⟩ fun s hs => hs
    have hc : tst (bin onotin (var 5) (var 2)) (osE NX OS kvs ln o4 (some (nD t))) = .ok (!decide (t ∈ ln)) := by
      show ((Res.ok (nD t) >>= fun u => Res.ok (D.dic false kvs) >>= fun v => onotin u v) >>= truthy) = _
      rw [bind_ok, bind_ok, onotin_dic rfl]
      show Res.ok (!hasN kvs t) = _
      rw [M.has]
    simp only [List.map_cons, forL]
    rw [show forB (gnm 5) osI (nD t) (osE NX OS kvs ln o4 o5) = osI (osE NX OS kvs ln o4 (some (nD t))) from rfl]
    by_cases q : t ∈ ln
    · obtain ⟨kvs', u, o5', e, M', nd', hu, hall⟩ := in_loop hS (o4 := o4) ts kvs ln (some (nD t)) M nd hl fun x hx => ht x (List.mem_cons_of_mem _ hx)
      refine ⟨kvs', u, o5', ?_, M', nd', fun x hx => List.mem_cons_of_mem _ (hu x hx), fun x hx => ?_⟩
      · unfold osI
        rw [ite_f (hc.trans (by rw [decide_eq_true q]; rfl))]
        exact e
      · rcases List.mem_cons.mp hx with z | z
        · rw [z]; exact List.mem_append_left _ q
        · exact hall x z
    · have nd1 : (ln ++ [t]).Nodup := by
        rw [List.nodup_append]
        refine ⟨nd, by simp, fun a ha b hb => ?_⟩
        rw [List.mem_singleton.mp hb]
        exact fun w => q (w ▸ ha)
      have M1 : MetD (putD (nD t) (.bl true) kvs) (ln ++ [t]) := ⟨put_NK M.nk, fun j => by
        rw [has_put M.nk, M.has]
        by_cases a : j = t <;> by_cases b : j ∈ ln <;> simp [a, b], by
        have := putD_len (nD t) (.bl true) kvs
        have := M.len
        rw [List.length_append]
        simp only [List.length_cons, List.length_nil]
        omega⟩
      have hl1 : ∀ x ∈ ln ++ [t], x < S := fun x hx => by
        rcases List.mem_append.mp hx with z | z
        · exact hl x z
        · rw [List.mem_singleton.mp z]; exact ht0
      obtain ⟨kvs', u, o5', e, M', nd', hu, hall⟩ := in_loop hS (o4 := o4) ts (putD (nD t) (.bl true) kvs) (ln ++ [t]) (some (nD t)) M1 nd1 hl1 fun x hx => ht x (List.mem_cons_of_mem _ hx)
      rw [List.append_assoc, List.singleton_append] at e M' nd' hall
      have h60 : SZ = 16777216 := rfl
      have hml := M.len
      refine ⟨kvs', t :: u, o5', ?_, M', nd', fun x hx => ?_, fun x hx => ?_⟩
      · have e1 : osI (osE NX OS kvs ln o4 (some (nD t))) = .ok (.next (osE NX OS (putD (nD t) (.bl true) kvs) (ln ++ [t]) o4 (some (nD t)))) := by
          unfold osI
          rw [ite_t (hc.trans (by rw [decide_eq_false q]; rfl))]
          rw [seq_next (e' := osE NX OS (putD (nD t) (.bl true) kvs) ln o4 (some (nD t))) (setL_dic (t := false) (kvs := kvs) (k := nD t) (d := .bl true) rfl rfl rfl rfl (by omega))]
          have em : ln.map nD ++ [nD t] = (ln ++ [t]).map nD := by simp
          rw [app_eq, var_at (d := .lst (ln.map nD)) rfl, bind_ok]
          dsimp only
          rw [var_at (d := nD t) rfl, bind_ok, if_pos (by rw [List.length_map]; omega), em]
          rfl
        rw [e1]
        exact e
      · rcases List.mem_cons.mp hx with z | z
        · rw [z]; exact List.mem_cons_self
        · exact List.mem_cons_of_mem _ (hu x z)
      · rcases List.mem_cons.mp hx with z | z
        · rw [z]; simp
        · exact hall x z
/-- what the walk has met so far -/
structure Wk (S : Nat) (nx os : List (List Nat)) (i : Nat) (ln : List Nat) : Prop where
  nd : ln.Nodup
  lt : ∀ x ∈ ln, x < S
  zero : ∃ u, ln = 0 :: u
  rch : ∀ x ∈ ln, Rch nx x
  done : ∀ p, p < i → (h : p < ln.length) → rw1 os ln[p] = rw1 os 0 ∧ ∀ t ∈ rw1 nx ln[p], t ∈ ln
def ups (i : Nat) : Nat → List D
  | 0 => []
  | m + 1 => nD i :: ups (i + 1) m
theorem ups_range : ∀ (m i : Nat), ups i m = (List.range m).map fun j => nD (i + j)
  | 0, i => rfl
  | m + 1, i => by
    rw [List.range_succ_eq_map, List.map_cons, List.map_map, ups, ups_range m (i + 1)]
    congr 1
    refine List.map_congr_left fun j _ => ?_
    show nD (i + 1 + j) = nD (i + (j + 1))
    congr 1
    omega
theorem os_loop {B : Nat} (h : Tbl S L S nx) (ho : Tbl S L B os) (h0 : 0 < S) (hS : S ≤ 999) : ∀ (m i : Nat) (kvs : List (D × D)) (ln : List Nat) (o4 o5 : Option D), i + m = S → MetD kvs ln → Wk S nx os i ln →
    (∃ kvs' ln' o4' o5', forL (forB (gnm 4) osB) (ups i m) (osE (.lst (nx.map rD)) (.lst (os.map rD)) kvs ln o4 o5) = .ok (.next (osE (.lst (nx.map rD)) (.lst (os.map rD)) kvs' ln' o4' o5')) ∧ Wk S nx os S ln') ∨
    (forL (forB (gnm 4) osB) (ups i m) (osE (.lst (nx.map rD)) (.lst (os.map rD)) kvs ln o4 o5) = .ok (.ret (.bl false)) ∧ ∃ s, Rch nx s ∧ rw1 os s ≠ rw1 os 0)
  | 0, i, kvs, ln, o4, o5, hm, M, K => .inl ⟨kvs, ln, o4, o5, rfl, (show i = S from hm) ▸ K⟩
  | m + 1, i, kvs, ln, o4, o5, hm, M, K => by
    have hlen : ln.length ≤ S := Fnd.len (C := id) (n := S) ⟨by simpa using K.nd, K.lt⟩ fun s hs => hs
    generalize hNX : D.lst (nx.map rD) = NX at *
    generalize hOS : D.lst (os.map rD) = OS at *
    have hc : tst (bin olt (var 4) (un blen (var 3))) (osE NX OS kvs ln (some (nD i)) o5) = .ok (decide (i < ln.length)) := by
      show ((Res.ok (nD i) >>= fun u => (Res.ok (D.lst (ln.map nD)) >>= blen) >>= fun v => olt u v) >>= truthy) = _
      rw [bind_ok, bind_ok]
      show ((Res.ok (nD (ln.map nD).length) >>= fun v => olt (nD i) v) >>= truthy) = _
      rw [List.length_map, bind_ok, olt_n]
      rfl
    simp only [ups, forL]
    rw [show forB (gnm 4) osB (nD i) (osE NX OS kvs ln o4 o5) = osB (osE NX OS kvs ln (some (nD i)) o5) from rfl]
    by_cases hi : i < ln.length
    · have hsl : ln[i] < S := K.lt _ (List.getElem_mem hi)
      have hla : bin oidx (var 3) (var 4) (osE NX OS kvs ln (some (nD i)) o5) = .ok (nD ln[i]) := by
        show (Res.ok (D.lst (ln.map nD)) >>= fun u => Res.ok (nD i) >>= fun v => oidx u v) = _
        rw [bind_ok, bind_ok, idx_nL hi]
        unfold at1
        rw [List.getD_eq_getElem?_getD, List.getElem?_eq_getElem hi]
        rfl
      have ix : ∀ {T : List (List Nat)} {B : Nat} {s : Nat}, Tbl S L B T → s < S → oidx (.lst (T.map rD)) (nD s) = .ok (rD (rw1 T s)) := fun hT hs => by
        refine oidx_l ?_
        rw [List.getElem?_map, (hT.at hs).1]
        rfl
      have ix0 : oidx OS (.int 0) = .ok (rD (rw1 os 0)) := by
        have := ix ho h0
        rw [hOS] at this
        exact this
      have ho1 : bin oidx (var 1) (bin oidx (var 3) (var 4)) (osE NX OS kvs ln (some (nD i)) o5) = .ok (rD (rw1 os ln[i])) := by
        show (Res.ok OS >>= fun u => bin oidx (var 3) (var 4) (osE NX OS kvs ln (some (nD i)) o5) >>= fun v => oidx u v) = _
        rw [bind_ok, hla, bind_ok, ← hOS, ix ho hsl]
      have hd : tst (bin Py.one (bin oidx (var 1) (bin oidx (var 3) (var 4))) (bin oidx (var 1) (cst (.int 0)))) (osE NX OS kvs ln (some (nD i)) o5) = .ok (!decide (rw1 os ln[i] = rw1 os 0)) := by
        show ((bin oidx (var 1) (bin oidx (var 3) (var 4)) (osE NX OS kvs ln (some (nD i)) o5) >>= fun u => (Res.ok OS >>= fun u => Res.ok (D.int 0) >>= fun v => oidx u v) >>= fun v => Py.one u v) >>= truthy) = _
        rw [ho1, bind_ok, bind_ok, bind_ok, ix0, bind_ok, one_rD]
        rfl
      by_cases he : rw1 os ln[i] = rw1 os 0
      · have hrow := (h.at hsl)
        obtain ⟨kvs', u, o5', e, M', nd', hu, hall⟩ := in_loop (NX := NX) (OS := OS) hS (o4 := some (nD i)) (rw1 nx ln[i]) kvs ln o5 M K.nd K.lt hrow.2.2
        have hit : iseq (bin oidx (var 0) (bin oidx (var 3) (var 4))) (osE NX OS kvs ln (some (nD i)) o5) = .ok ((rw1 nx ln[i]).map nD) := by
          have : bin oidx (var 0) (bin oidx (var 3) (var 4)) (osE NX OS kvs ln (some (nD i)) o5) = .ok (rD (rw1 nx ln[i])) := by
            show (Res.ok NX >>= fun u => bin oidx (var 3) (var 4) (osE NX OS kvs ln (some (nD i)) o5) >>= fun v => oidx u v) = _
            rw [bind_ok, hla, bind_ok, ← hNX, ix h hsl]
          unfold iseq
          rw [this]
          rfl
        have e1 : osB (osE NX OS kvs ln (some (nD i)) o5) = .ok (.next (osE NX OS kvs' (ln ++ u) (some (nD i)) o5')) := by
          unfold osB
          rw [ite_t (hc.trans (by rw [decide_eq_true hi])), chk_pass (hd.trans (by rw [decide_eq_true he]; rfl))]
          show (iseq _ _ >>= fun xs => forL (forB (gnm 5) osI) xs _) = _
          rw [hit, bind_ok, e]
        have hlt : ∀ x ∈ ln ++ u, x < S := fun x hx => by
          rcases List.mem_append.mp hx with z | z
          · exact K.lt x z
          · exact hrow.2.2 x (hu x z)
        have K1 : Wk S nx os (i + 1) (ln ++ u) := by
          refine ⟨nd', hlt, ?_, fun x hx => ?_, fun p hp hpl => ?_⟩
          · obtain ⟨v, rfl⟩ := K.zero
            exact ⟨v ++ u, rfl⟩
          · rcases List.mem_append.mp hx with z | z
            · exact K.rch x z
            · intro Q q0 hQ
              exact hQ ln[i] (K.rch _ (List.getElem_mem hi) Q q0 hQ) x (hu x z)
          · by_cases hp2 : p < i
            · have hpl2 : p < ln.length := by omega
              rw [List.getElem_append_left hpl2]
              obtain ⟨a, b⟩ := K.done p hp2 hpl2
              exact ⟨a, fun t ht => List.mem_append_left _ (b t ht)⟩
            · have : p = i := by omega
              subst this
              rw [List.getElem_append_left hi]
              exact ⟨he, hall⟩
        have r := os_loop h ho h0 hS m (i + 1) kvs' (ln ++ u) (some (nD i)) o5' (by omega) M' K1
        rw [hNX, hOS] at r
        rw [e1]
        exact r
      · refine .inr ⟨?_, ln[i], K.rch _ (List.getElem_mem hi), he⟩
        have e1 : osB (osE NX OS kvs ln (some (nD i)) o5) = .ok (.ret (.bl false)) := by
          unfold osB
          rw [ite_t (hc.trans (by rw [decide_eq_true hi]))]
          exact hit (hd.trans (by rw [decide_eq_false he]; rfl)) rfl
        rw [e1]
        rfl
    · have e1 : osB (osE NX OS kvs ln (some (nD i)) o5) = .ok (.next (osE NX OS kvs ln (some (nD i)) o5)) := by
        unfold osB
        rw [ite_f (hc.trans (by rw [decide_eq_false hi]))]
        rfl
      have K1 : Wk S nx os (i + 1) ln := ⟨K.nd, K.lt, K.zero, K.rch, fun p hp hpl => K.done p (by omega) hpl⟩
      have r := os_loop h ho h0 hS m (i + 1) kvs ln (some (nD i)) o5 (by omega) M K1
      rw [hNX, hOS] at r
      rw [e1]
      exact r
theorem one_state_ok {B : Nat} (h : Tbl S L S nx) (ho : Tbl S L B os) (h0 : 0 < S) (hS : S ≤ 999) : m_law_one_state [.lst (nx.map rD), .lst (os.map rD)] = .ok (.bl (decide ((fndM nx os).length = 1))) := by
  have M0 : MetD [(nD 0, D.bl true)] [0] := ⟨fun q hq => by
    rw [List.mem_singleton.mp hq]
    exact ⟨0, rfl⟩, fun j => by
    unfold hasN
    simp only [find, nD_eq, List.mem_singleton]
    by_cases q : j = 0
    · subst q; rfl
    · rw [decide_eq_false fun w => q w.symm, decide_eq_false q]; rfl, Nat.le_refl _⟩
  have K0 : Wk S nx os 0 [0] := ⟨by simp, fun x hx => by rw [List.mem_singleton.mp hx]; exact h0, ⟨[], rfl⟩, fun x hx Q q0 _ => by rw [List.mem_singleton.mp hx]; exact q0, fun p hp => absurd hp (by omega)⟩
  have hi : irng1 (un blen (var 0)) (osE (.lst (nx.map rD)) (.lst (os.map rD)) [(nD 0, .bl true)] [0] none none) = .ok (ups 0 S) := by
    have e : un blen (var 0) (osE (.lst (nx.map rD)) (.lst (os.map rD)) [(nD 0, .bl true)] [0] none none) = .ok (.int (S : Int)) := by
      rw [← h.len, ← List.length_map (f := rD) (as := nx)]
      rfl
    rw [irng1_nat e (Nat.lt_of_le_of_lt hS (by decide)), ups_range]
    congr 1
    exact List.map_congr_left fun j _ => by rw [Nat.zero_add]; rfl
  show done (b__law_one_state [some (.lst (nx.map rD)), some (.lst (os.map rD)), none, none, none, none]) = _
  unfold b__law_one_state
  have start : ∀ {r : Res Fl}, seq (for_ (irng1 (un blen (var 0))) (gnm 4) osB) (ret (cst (.bl true))) (osE (.lst (nx.map rD)) (.lst (os.map rD)) [(nD 0, .bl true)] [0] none none) = r → done (seq (asg (gnm 2) (dic1 false (cst (.int 0)) (cst (.bl true)))) (seq (asg (gnm 3) (lstE (argC (cst (.int 0)) argN))) (seq (for_ (irng1 (un blen (var 0))) (gnm 4) osB) (ret (cst (.bl true)))))
      [some (.lst (nx.map rD)), some (.lst (os.map rD)), none, none, none, none]) = done r := fun hr => congrArg done ((asg_pass (d := .dic false [(nD 0, .bl true)]) rfl).trans ((asg_pass (d := .lst [nD 0]) rfl).trans hr))
  rcases os_loop h ho h0 hS S 0 [(nD 0, .bl true)] [0] none none (by omega) M0 K0 with ⟨kvs, ln, o4, o5, e, K⟩ | ⟨e, s, hs, hne⟩
  · refine (start (for_pass hi e)).trans ?_
    have hlen : ln.length ≤ S := Fnd.len (C := id) (n := S) ⟨by simpa using K.nd, K.lt⟩ fun s hs => hs
    have all : ∀ x ∈ ln, rw1 os x = rw1 os 0 ∧ ∀ t ∈ rw1 nx x, t ∈ ln := fun x hx => by
      obtain ⟨p, hp, rfl⟩ := List.getElem_of_mem hx
      exact K.done p (by omega) hp
    obtain ⟨u, hu⟩ := K.zero
    have := one_of h ho h0 (X := fun x => x ∈ ln) (by rw [hu]; simp) (fun p hp q hq => (all p hp).2 q hq) K.lt fun p hp => (all p hp).1
    rw [decide_eq_true this]
    rfl
  · have hret : seq (for_ (irng1 (un blen (var 0))) (gnm 4) osB) (ret (cst (.bl true))) (osE (.lst (nx.map rD)) (.lst (os.map rD)) [(nD 0, .bl true)] [0] none none) = .ok (.ret (.bl false)) := by
      rw [seq_eq]
      have : for_ (irng1 (un blen (var 0))) (gnm 4) osB (osE (.lst (nx.map rD)) (.lst (os.map rD)) [(nD 0, .bl true)] [0] none none) = .ok (.ret (.bl false)) := by
        show (irng1 _ _ >>= fun xs => forL (forB (gnm 4) osB) xs _) = _
        rw [hi, bind_ok, e]
      rw [this]
      rfl
    refine (start hret).trans ?_
    rw [decide_eq_false fun w => hne (of_one h ho h0 w hs)]
    rfl
end
end Py.U
namespace Py.U
open PySem
/-! ### draws, statements that give back -/
def RetP (Q : D → Prop) (f : Fl) : Prop := ∃ d, f = .ret d ∧ Q d
theorem done_r {Q : D → Prop} {r : Res Fl} (h : Always (RetP Q) r) : Always Q (done r) := Always.done (h.mono (by
  rintro f ⟨d, rfl, hd⟩
  exact hd))
theorem ret_r {Q : D → Prop} {m : EM} {e : Env} (h : Always Q (m e)) : Always (RetP Q) (ret m e) := by
  rw [ret_eq]
  exact h.bind fun d hd => ⟨d, rfl, hd⟩
theorem ret_1 {Q : D → Prop} {m : EM} {e : Env} {d : D} (h : m e = .ok d) (hd : Q d) : Always (RetP Q) (ret m e) := ret_r (by rw [h]; exact hd)
theorem asg_d {P : Fl → Prop} {i : Nat} {m : EM} {r : SM} {e : Env} {d : D} (h : m e = .ok d) (k : Always P (r (e.set i (some d)))) : Always P (seq (asg (gnm i) m) r e) := by
  rw [asg_pass h]
  exact k
theorem chk_p1 {P : Fl → Prop} {t : TM} {b r : SM} {e : Env} (ht : t e = .ok false) (k : Always P (r e)) : Always P (seq (Py.ite t b skip) r e) := by
  rw [chk_pass ht]
  exact k
theorem cut_from {α : Type} (xs : List α) {k : Nat} (h : k ≤ xs.length) : cut xs (some (k : Int)) none = xs.drop k := by
  unfold cut
  have e0 : HT.sIx xs.length 0 (some (k : Int)) = k := by rw [HT.sIx_nat, Nat.min_eq_left h]
  have e1 : HT.sIx xs.length xs.length none = xs.length := rfl
  rw [e0, e1, List.take_of_length_le (by rw [List.length_drop]; omega)]
theorem oadd_tt {a b : List D} (h : a.length + b.length ≤ SZ) : oadd (.tup a) (.tup b) = .ok (.tup (a ++ b)) := if_pos h
abbrev drwT : D := .drw (.inl true)
/-! ### comprehensions of any data -/
theorem comp_g {f : D → Res (Option D)} {P : D → Prop} : ∀ {xs : List D}, (∀ x ∈ xs, Always (fun o => ∃ d, P d ∧ o = some d) (f x)) → Always (fun ys => ys.length = xs.length ∧ ∀ y ∈ ys, P y) (compL f xs)
  | [], _ => ⟨rfl, fun _ h => nomatch h⟩
  | x :: xs, h => by
    unfold compL
    refine (h x List.mem_cons_self).bind ?_
    rintro _ ⟨a, ha, rfl⟩
    refine (comp_g (xs := xs) fun y hy => h y (List.mem_cons_of_mem _ hy)).bind ?_
    rintro r ⟨hl, hr⟩
    refine ⟨by simp [hl], fun y hy => ?_⟩
    rcases List.mem_cons.mp hy with rfl | hy
    · exact ha
    · exact hr y hy
def LstP (S : Nat) (P : D → Prop) (d : D) : Prop := ∃ ys, d = .lst ys ∧ ys.length = S ∧ ∀ y ∈ ys, P y
theorem lc_g {it : IM} {vs : List Nat} {j : Nat} {elt : EM} {e : Env} {xs : List D} {P : D → Prop} (hi : it e = .ok xs) (hz : xs.length ≤ SZ) (he : ∀ x ∈ xs, Always P (elt ((wipe e vs).set j (some x)))) : Always (LstP xs.length P) (lcE it vs (gnm j) yes elt e) := by
  unfold lcE
  rw [hi, bind_ok]
  refine ((comp_g (P := P) fun x hx => ?_).noexc).bind ?_
  · unfold compF
    rw [gnm_eq]
    show Always _ (lift (some _) >>= _)
    rw [lift_some, bind_ok]
    show Always _ (Res.ok true >>= _)
    rw [bind_ok, if_pos rfl]
    exact (he x hx).bind fun d hd => ⟨d, hd, rfl⟩
  · rintro r ⟨hl, hr⟩
    rw [chk_ok hz]
    exact ⟨r, rfl, hl, hr⟩
def LineP (L B : Nat) (d : D) : Prop := ∃ r : List Nat, d = rD r ∧ r.length = L ∧ ∀ x ∈ r, x < B
abbrev TabD (S L B : Nat) : D → Prop := LstP S (LineP L B)
theorem tbl_of {S L B : Nat} {ys : List D} (hl : ys.length = S) (h : ∀ y ∈ ys, LineP L B y) : ∃ t, ys = t.map rD ∧ Tbl S L B t := by
  have key : ∀ ys : List D, (∀ y ∈ ys, LineP L B y) → ∃ t : List (List Nat), ys = t.map rD ∧ ∀ r ∈ t, r.length = L ∧ ∀ x ∈ r, x < B := by
    intro ys
    induction ys with
    | nil => exact fun _ => ⟨[], rfl, by simp⟩
    | cons y ys ih =>
      intro h
      obtain ⟨r, e, a, b⟩ := h y List.mem_cons_self
      obtain ⟨t, e2, c⟩ := ih fun z hz => h z (List.mem_cons_of_mem _ hz)
      exact ⟨r :: t, by rw [e, e2]; rfl, fun q hq => by
        rcases List.mem_cons.mp hq with rfl | hq
        · exact ⟨a, b⟩
        · exact c q hq⟩
  obtain ⟨t, e, c⟩ := key ys h
  exact ⟨t, e, by rw [← hl, e, List.length_map], c⟩
/-- a tuple of draws -/
theorem line_a {L B : Nat} {elt : EM} {e : Env} (hL : L ≤ 8) (h1 : var 1 e = .ok (nD L)) (he : ∀ x, Always (fun d => ∃ a : Nat, a < B ∧ d = nD a) (elt ((wipe e [6]).set 6 (some x)))) : Always (LineP L B) (un btuple (lcE (irng1 (var 1)) [6] (gnm 6) yes elt) e) := by
  rw [un_eq]
  refine (lc_a (B := B) (irng_n h1 (by omega)) (by rw [List.length_map, List.length_range]; exact Nat.le_trans hL (by decide)) fun x _ => he x).bind ?_
  rintro _ ⟨r, rfl, hl, hr⟩
  exact ⟨r, rfl, by rw [hl, List.length_map, List.length_range], hr⟩
theorem take_a {e : Env} {m : EM} (n : Nat) (h : e[0]? = some (some drwT)) (hm : m e = .ok (nD n)) (h0 : 0 < n) (h1 : n < 1000000) : Always (fun d => ∃ a : Nat, a < n ∧ d = nD a) (call m_law_take (argC (var 0) (argC m argN)) e) := pickc n h hm rfl h0 h1 fun i hi => ⟨i, hi, rfl⟩
/-- one of a tuple -/
theorem one_a {e : Env} {xs : List D} {m am : EM} {P : D → Prop} (ha : am e = .ok (.tup xs)) (hm : Always (fun d => ∃ a : Nat, a < xs.length ∧ d = nD a) (m e)) (h : ∀ x ∈ xs, P x) : Always P (bin oidx am m e) := by
  rw [bin_eq, ha, bind_ok]
  refine hm.bind ?_
  rintro _ ⟨a, hl, rfl⟩
  have q : oidx (.tup xs) (nD a) = .ok xs[a] := oidx_t (k := a) (List.getElem?_eq_getElem hl)
  rw [q]
  exact h _ (List.getElem_mem hl)
section
variable {L : Nat} (hL1 : 1 ≤ L) (hL : L ≤ 8)
abbrev mE (L p s : Nat) (o4 o5 o6 o7 o8 o9 o10 o11 o12 o13 o14 : Option D) : Env := [some drwT, some (nD L), some (nD p), some (nD s), o4, o5, o6, o7, o8, o9, o10, o11, o12, o13, o14]
include hL1 hL
theorem outs_a {p s : Nat} (hs : s ≤ 6) : Always (TabD s L 2) (lcE (irng1 (var 3)) [12] (gnm 12) yes (un btuple (lcE (irng1 (var 1)) [6] (gnm 6) yes (call m_law_take (argC (var 0) (argC (cst (.int 2)) argN))))) (mE L p s none none none none none none none none none none none)) := by
  have := lc_g (P := LineP L 2) (it := irng1 (var 3)) (vs := [12]) (j := 12) (elt := un btuple (lcE (irng1 (var 1)) [6] (gnm 6) yes (call m_law_take (argC (var 0) (argC (cst (.int 2)) argN))))) (e := mE L p s none none none none none none none none none none none) (irng_n (n := s) rfl (by omega)) (by rw [List.length_map, List.length_range]; exact Nat.le_trans hs (by decide)) fun x _ => line_a hL rfl fun y => take_a 2 rfl rfl (by omega) (by omega)
  rw [List.length_map, List.length_range] at this
  exact this
theorem same_a {p s : Nat} {ys : List D} (hs1 : 1 ≤ s) (hs : s ≤ 6) (hl : ys.length = s) (hy : ∀ y ∈ ys, LineP L 2 y) : Always (TabD s L 2) (lcE (irng1 (var 3)) [12] (gnm 12) yes (bin oidx (var 4) (cst (.int 0))) (mE L p s (some (.lst ys)) none none none none none none none none none none)) := by
  have := lc_g (P := LineP L 2) (it := irng1 (var 3)) (vs := [12]) (j := 12) (elt := bin oidx (var 4) (cst (.int 0))) (e := mE L p s (some (.lst ys)) none none none none none none none none none none) (irng_n (n := s) rfl (by omega)) (by rw [List.length_map, List.length_range]; exact Nat.le_trans hs (by decide)) fun x _ => by
    show Always _ (oidx (.lst ys) (.int 0))
    have h0 : 0 < ys.length := by omega
    have q := oidx_l (xs := ys) (k := 0) (d := ys[0]) (List.getElem?_eq_getElem h0)
    have q' : oidx (.lst ys) (.int 0) = .ok ys[0] := q
    rw [q']
    exact hy _ (List.getElem_mem h0)
  rw [List.length_map, List.length_range] at this
  exact this
/-- one bit of one line turned -/
theorem turn_a {p s : Nat} {ys : List D} (hs1 : 1 ≤ s) (hs : s ≤ 6) (hl : ys.length = s) (hy : ∀ y ∈ ys, LineP L 2 y) : Always (NX fun e => ∃ ys' o5 o6, ys'.length = s ∧ (∀ y ∈ ys', LineP L 2 y) ∧ e = mE L p s (some (.lst ys')) o5 o6 none none none none none none none none)
    (seq (asg (gnm 5) (call m_law_take (argC (var 0) (argC (var 3) argN)))) (seq (asg (gnm 6) (call m_law_take (argC (var 0) (argC (var 1) argN))))
  (setL 4 (var 5) (bin oadd (bin oadd (slc (bin oidx (var 4) (var 5)) none (some (var 6))) (tupE (argC (bin osub (cst (.int 1)) (bin oidx (bin oidx (var 4) (var 5)) (var 6))) argN))) (slc (bin oidx (var 4) (var 5)) (some (bin oadd (var 6) (cst (.int 1)))) none)))) (mE L p s (some (.lst ys)) none none none none none none none none none none)) := by
  refine asg_a (take_a s rfl rfl (by omega) (by omega)) ?_
  rintro _ ⟨a, ha, rfl⟩
  refine asg_a (take_a L rfl rfl (by omega) (by omega)) ?_
  rintro _ ⟨x, hx, rfl⟩
  have hal : a < ys.length := by omega
  obtain ⟨r, er, hr1, hr2⟩ := hy ys[a] (List.getElem_mem hal)
  have hrow : bin oidx (var 4) (var 5) (mE L p s (some (.lst ys)) (some (nD a)) (some (nD x)) none none none none none none none none) = .ok (rD r) := by
    show oidx (.lst ys) (nD a) = _
    have q : oidx (.lst ys) (nD a) = .ok ys[a] := oidx_l (k := a) (List.getElem?_eq_getElem hal)
    rw [q, er]
  have hb : bin oidx (bin oidx (var 4) (var 5)) (var 6) (mE L p s (some (.lst ys)) (some (nD a)) (some (nD x)) none none none none none none none none) = .ok (nD (at1 r x)) := by
    rw [bin_eq, hrow, bind_ok]
    exact idx_nT (by omega)
  have hbit : at1 r x < 2 := hr2 _ (at1_mem (by omega))
  have hm : bin oadd (bin oadd (slc (bin oidx (var 4) (var 5)) none (some (var 6))) (tupE (argC (bin osub (cst (.int 1)) (bin oidx (bin oidx (var 4) (var 5)) (var 6))) argN))) (slc (bin oidx (var 4) (var 5)) (some (bin oadd (var 6) (cst (.int 1)))) none) (mE L p s (some (.lst ys)) (some (nD a)) (some (nD x)) none none none none none none none none) = .ok (rD (r.take x ++ [1 - at1 r x] ++ r.drop (x + 1))) := by
    have s1 : slc (bin oidx (var 4) (var 5)) none (some (var 6)) (mE L p s (some (.lst ys)) (some (nD a)) (some (nD x)) none none none none none none none none) = .ok (.tup (cut (r.map nD) none (some (x : Int)))) := by
      unfold slc
      rw [hrow]
      rfl
    have s2 : slc (bin oidx (var 4) (var 5)) (some (bin oadd (var 6) (cst (.int 1)))) none (mE L p s (some (.lst ys)) (some (nD a)) (some (nD x)) none none none none none none none none) = .ok (.tup (cut (r.map nD) (some ((x + 1 : Nat) : Int)) none)) := by
      unfold slc
      rw [hrow]
      rfl
    have s3 : tupE (argC (bin osub (cst (.int 1)) (bin oidx (bin oidx (var 4) (var 5)) (var 6))) argN) (mE L p s (some (.lst ys)) (some (nD a)) (some (nD x)) none none none none none none none none) = .ok (.tup [nD (1 - at1 r x)]) := by
      have : bin osub (cst (.int 1)) (bin oidx (bin oidx (var 4) (var 5)) (var 6)) (mE L p s (some (.lst ys)) (some (nD a)) (some (nD x)) none none none none none none none none) = .ok (nD (1 - at1 r x)) := by
        rw [bin_eq, cst_eq, bind_ok, hb, bind_ok]
        exact nsub (a := 1) (by omega)
      rw [tupE_eq, argC_eq, this]
      rfl
    have c1 : cut (r.map nD) none (some (x : Int)) = (r.take x).map nD := by rw [cut_take _ (by rw [List.length_map]; omega), List.map_take]
    have c2 : cut (r.map nD) (some ((x + 1 : Nat) : Int)) none = (r.drop (x + 1)).map nD := by rw [cut_from _ (by rw [List.length_map]; omega), List.map_drop]
    have h60 : SZ = 16777216 := rfl
    rw [bin_eq, bin_eq, s1, bind_ok, s3, bind_ok, s2, c1, c2, oadd_tt (by simp; omega), bind_ok, bind_ok, oadd_tt (by simp; omega)]
    unfold rD
    congr 2
    simp
  have hset := setL_ok (i := 4) (j := var 5) (e := mE L p s (some (.lst ys)) (some (nD a)) (some (nD x)) none none none none none none none none) (xs := ys) rfl hm rfl hal
  show Always _ (setL 4 (var 5) _ (mE L p s (some (.lst ys)) (some (nD a)) (some (nD x)) none none none none none none none none))
  rw [hset]
  refine ⟨_, rfl, ys.set a (rD (r.take x ++ [1 - at1 r x] ++ r.drop (x + 1))), some (nD a), some (nD x), by rw [List.length_set]; exact hl, fun y hyy => ?_, rfl⟩
  rcases List.mem_or_eq_of_mem_set hyy with z | z
  · exact hy y z
  · refine ⟨_, z, by simp; omega, fun b hb => ?_⟩
    simp only [List.mem_append, List.mem_singleton] at hb
    rcases hb with (hb | hb) | hb
    · exact hr2 b (List.mem_of_mem_take hb)
    · omega
    · exact hr2 b (List.mem_of_mem_drop hb)
end
end Py.U
namespace Py.U
open PySem
theorem setL_a {P : Fl → Prop} {Q : D → Prop} {i : Nat} {j m : EM} {e : Env} {xs : List D} {k : Nat} (h1 : var i e = .ok (.lst xs)) (h2 : Always Q (m e)) (h3 : j e = .ok (nD k)) (hk : k < xs.length) (q : ∀ d, Q d → P (.next (e.set i (some (.lst (xs.set k d)))))) : Always P (setL i j m e) := by
  unfold setL
  rw [h1, bind_ok]
  dsimp only
  refine h2.bind fun d hd => ?_
  rw [h3, bind_ok]
  have := ixN_nat hk
  show Always P (match L2.ixN xs.length (k : Int) with | some n => Res.ok (Fl.next (e.set i (some (.lst (xs.set n d))))) | none => Res.stuck)
  rw [this]
  exact q d hd
theorem app_a {P : Fl → Prop} {Q : D → Prop} {i : Nat} {m : EM} {e : Env} {xs : List D} (h : e[i]? = some (some (.lst xs))) (hz : xs.length < SZ) (hm : Always Q (m e)) (k : ∀ d, Q d → P (.next (e.set i (some (.lst (xs ++ [d])))))) : Always P (app i m e) := by
  rw [app_eq, var_at h, bind_ok]
  refine hm.bind fun d hd => ?_
  show Always P (if xs.length < SZ then _ else _)
  rw [if_pos hz]
  exact k d hd
/-- a comprehension that keeps some -/
theorem compL_fil {f : D → Res (Option D)} {p : Nat → Bool} : ∀ {xs : List Nat}, (∀ x ∈ xs, f (nD x) = .ok (if p x then some (nD x) else none)) → compL f (xs.map nD) = .ok ((xs.filter p).map nD)
  | [], _ => rfl
  | x :: xs, h => by
    simp only [List.map_cons, compL]
    rw [h x List.mem_cons_self, bind_ok, compL_fil fun y hy => h y (List.mem_cons_of_mem _ hy), bind_ok, List.filter_cons]
    cases p x <;> rfl
section
variable {L : Nat} (hL1 : 1 ≤ L) (hL : L ≤ 8)
include hL1 hL
theorem len7 {L p s : Nat} {ns : List Nat} {o4 o5 o6 o8 o9 o10 o11 o12 o13 o14 : Option D} : un blen (var 7) (mE L p s o4 o5 o6 (some (.lst (ns.map nD))) o8 o9 o10 o11 o12 o13 o14) = .ok (nD ns.length) := by
  rw [← List.length_map (f := nD) (as := ns)]
  rfl
/-- further names of the states -/
theorem names_a {p s : Nat} (hs1 : 1 ≤ s) (hs : s ≤ 6) (o4 o5 o6 : Option D) : Always (NX fun e => ∃ ext o8, ext.length ≤ 40 ∧ (∀ x ∈ ext, x < s) ∧ e = mE L p s o4 o5 o6 (some (.lst ((List.range s ++ ext).map nD))) o8 none none none none none none)
    (for_ (irng1 (bin oidx (tupE (argC (cst (.int 0)) (argC (cst (.int 0)) (argC (cst (.int 1)) (argC (cst (.int 2)) (argC (cst (.int 5)) (argC (bin osub (cst (.int 40)) (var 3)) argN))))))) (call m_law_take (argC (var 0) (argC (cst (.int 6)) argN))))) (gnm 8) (app 7 (call m_law_take (argC (var 0) (argC (var 3) argN)))) (mE L p s o4 o5 o6 (some (.lst ((List.range s).map nD))) none none none none none none none)) := by
  rw [for_eq]
  refine Always.bind (Q := fun ys => ∃ c : Nat, c ≤ 40 ∧ ys = (List.range c).map nD) ?_ ?_
  · have ht : tupE (argC (cst (.int 0)) (argC (cst (.int 0)) (argC (cst (.int 1)) (argC (cst (.int 2)) (argC (cst (.int 5)) (argC (bin osub (cst (.int 40)) (var 3)) argN)))))) (mE L p s o4 o5 o6 (some (.lst ((List.range s).map nD))) none none none none none none none) = .ok (.tup [nD 0, nD 0, nD 1, nD 2, nD 5, nD (40 - s)]) := by
      have : bin osub (cst (.int 40)) (var 3) (mE L p s o4 o5 o6 (some (.lst ((List.range s).map nD))) none none none none none none none) = .ok (nD (40 - s)) := nsub (a := 40) (b := s) (by omega)
      rw [tupE_eq]
      simp only [argC_eq, cst_eq, bind_ok, this]
      rfl
    unfold irng1
    refine (one_a (P := fun d => ∃ c : Nat, c ≤ 40 ∧ d = nD c) ht (take_a 6 rfl rfl (by omega) (by omega)) ?_).bind ?_
    · intro x hx
      simp only [List.mem_cons, List.not_mem_nil, or_false] at hx
      rcases hx with rfl | rfl | rfl | rfl | rfl | rfl
      · exact ⟨0, by omega, rfl⟩
      · exact ⟨0, by omega, rfl⟩
      · exact ⟨1, by omega, rfl⟩
      · exact ⟨2, by omega, rfl⟩
      · exact ⟨5, by omega, rfl⟩
      · exact ⟨40 - s, by omega, rfl⟩
    · rintro _ ⟨c, hc, rfl⟩
      show Always _ (if ((c : Nat) : Int).natAbs < B62 then Res.ok (rngL 0 ((c : Nat) : Int)) else .stuck)
      rw [if_pos (Nat.lt_of_le_of_lt (show ((c : Nat) : Int).natAbs ≤ 40 by omega) (by decide))]
      exact ⟨c, hc, rng_map c⟩
  · rintro _ ⟨c, hc, rfl⟩
    refine (forR_a (fun j e => ∃ ext o8, ext.length = j ∧ (∀ x ∈ ext, x < s) ∧ e = mE L p s o4 o5 o6 (some (.lst ((List.range s ++ ext).map nD))) o8 none none none none none none) ⟨[], none, rfl, by simp, by rw [List.append_nil]⟩ ?_).mono ?_
    · rintro j _ hj ⟨ext, o8, h1, h2, rfl⟩
      show Always _ (app 7 _ (mE L p s o4 o5 o6 (some (.lst ((List.range s ++ ext).map nD))) (some (nD j)) none none none none none none))
      have h60 : SZ = 16777216 := rfl
      refine app_a (xs := (List.range s ++ ext).map nD) rfl (by simp; omega) (take_a s rfl rfl (by omega) (by omega)) ?_
      rintro _ ⟨a, ha, rfl⟩
      refine ⟨_, rfl, ext ++ [a], some (nD j), by simp [h1], fun x hx => ?_, ?_⟩
      · rcases List.mem_append.mp hx with z | z
        · exact h2 x z
        · rw [List.mem_singleton.mp z]; exact ha
      · have : (List.range s ++ ext).map nD ++ [nD a] = (List.range s ++ (ext ++ [a])).map nD := by simp
        rw [this]
        rfl
    · rintro _ ⟨e, rfl, ext, o8, h1, h2, rfl⟩
      exact ⟨_, rfl, ext, o8, by omega, h2, rfl⟩
theorem zeros_a {p s : Nat} {ns : List Nat} (hn : 1 ≤ ns.length) (hN : ns.length ≤ 46) (o4 o5 o6 o8 : Option D) : Always (NX fun e => ∃ ys o8, ys.length = ns.length ∧ (∀ y ∈ ys, LineP L ns.length y) ∧ e = mE L p s o4 o5 o6 (some (.lst (ns.map nD))) o8 (some (.lst ys)) none none none none none)
    (for_ (irng1 (un blen (var 7))) (gnm 8) (app 9 (un btuple (lcE (irng1 (var 1)) [6] (gnm 6) yes (cst (.int 0))))) (mE L p s o4 o5 o6 (some (.lst (ns.map nD))) o8 (some (.lst [])) none none none none none)) := by
  rw [for_eq, irng_n (n := ns.length) (len7 hL1 hL) (by omega), bind_ok]
  refine (forR_a (fun j e => ∃ ys o8, ys.length = j ∧ (∀ y ∈ ys, LineP L ns.length y) ∧ e = mE L p s o4 o5 o6 (some (.lst (ns.map nD))) o8 (some (.lst ys)) none none none none none) ⟨[], o8, rfl, by simp, rfl⟩ ?_).mono ?_
  · rintro j _ hj ⟨ys, o8, h1, h2, rfl⟩
    show Always _ (app 9 _ (mE L p s o4 o5 o6 (some (.lst (ns.map nD))) (some (nD j)) (some (.lst ys)) none none none none none))
    have h60 : SZ = 16777216 := rfl
    refine app_a (xs := ys) rfl (by omega) (line_a hL rfl fun x => ⟨0, hn, rfl⟩) ?_
    intro d hd
    refine ⟨_, rfl, ys ++ [d], some (nD j), by simp [h1], fun x hx => ?_, rfl⟩
    rcases List.mem_append.mp hx with z | z
    · exact h2 x z
    · rw [List.mem_singleton.mp z]; exact hd
  · rintro _ ⟨e, rfl, ys, o8, h1, h2, rfl⟩
    exact ⟨_, rfl, ys, o8, h1, h2, rfl⟩
/-- next states drawn at will -/
theorem free_a {p s m : Nat} {ns : List Nat} (hn : 1 ≤ ns.length) (hN : ns.length ≤ 46) (hm1 : 1 ≤ m) (hm : m ≤ ns.length) {ys : List D} (hl : ys.length = ns.length) (hy : ∀ y ∈ ys, LineP L ns.length y) (o4 o5 o6 o8 o11 o12 o13 o14 : Option D) :
    Always (NX fun e => ∃ ys o8 o11 o12 o13 o14, ys.length = ns.length ∧ (∀ y ∈ ys, LineP L ns.length y) ∧ e = mE L p s o4 o5 o6 (some (.lst (ns.map nD))) o8 (some (.lst ys)) (some (nD m)) o11 o12 o13 o14)
    (for_ (irng1 (un blen (var 7))) (gnm 8) (setL 9 (var 8) (un btuple (lcE (irng1 (var 1)) [6] (gnm 6) yes (call m_law_take (argC (var 0) (argC (var 10) argN)))))) (mE L p s o4 o5 o6 (some (.lst (ns.map nD))) o8 (some (.lst ys)) (some (nD m)) o11 o12 o13 o14)) := by
  rw [for_eq, irng_n (n := ns.length) (len7 hL1 hL) (by omega), bind_ok]
  refine (forR_a (fun j e => ∃ ys o8, ys.length = ns.length ∧ (∀ y ∈ ys, LineP L ns.length y) ∧ e = mE L p s o4 o5 o6 (some (.lst (ns.map nD))) o8 (some (.lst ys)) (some (nD m)) o11 o12 o13 o14) ⟨ys, o8, hl, hy, rfl⟩ ?_).mono ?_
  · rintro j _ hj ⟨ys, o8, h1, h2, rfl⟩
    show Always _ (setL 9 _ _ (mE L p s o4 o5 o6 (some (.lst (ns.map nD))) (some (nD j)) (some (.lst ys)) (some (nD m)) o11 o12 o13 o14))
    refine setL_a (xs := ys) rfl (line_a (B := ns.length) hL rfl fun x => (take_a m rfl rfl hm1 (by omega)).mono ?_) rfl (by omega) fun d hd => ?_
    · rintro _ ⟨a, ha, rfl⟩
      exact ⟨a, by omega, rfl⟩
    · refine ⟨_, rfl, ys.set j d, some (nD j), by rw [List.length_set]; exact h1, fun y hyy => ?_, rfl⟩
      rcases List.mem_or_eq_of_mem_set hyy with z | z
      · exact h2 y z
      · rw [z]; exact hd
  · rintro _ ⟨e, rfl, ys, o8, h1, h2, rfl⟩
    exact ⟨_, rfl, ys, o8, o11, o12, o13, o14, h1, h2, rfl⟩
def HomeP (N : Nat) (d : D) : Prop := ∃ hs : List Nat, d = .lst (hs.map nD) ∧ 0 < hs.length ∧ hs.length ≤ N ∧ ∀ x ∈ hs, x < N
def hoB : SM := (seq (asg (gnm 11) (lstE argN))
  (seq (for_ (irng1 (var 3)) (gnm 12) (app 11 (lcE (irng1 (var 1)) [6] (gnm 6) yes (call m_law_take (argC (var 0) (argC (var 3) argN))))))
  (seq (asg (gnm 13) (lstE argN))
  (seq (for_ (irng1 (var 3)) (gnm 12) (app 13 (lcE (irng1 (un blen (var 7))) [8] (gnm 8) (tst (bin oeq (bin oidx (var 7) (var 8)) (var 12))) (var 8))))
  (for_ (irng1 (un blen (var 7))) (gnm 8) (setL 9 (var 8) (un btuple (lcE (iseq (bin oidx (var 11) (bin oidx (var 7) (var 8)))) [14] (gnm 14) yes (bin oidx (bin oidx (var 13) (var 14)) (call m_law_take (argC (var 0) (argC (un blen (bin oidx (var 13) (var 14))) argN))))))))))))
/-- next states at home -/
theorem home_a {p s m : Nat} {ext : List Nat} (hs1 : 1 ≤ s) (hs : s ≤ 6) (he : ext.length ≤ 40) (hx : ∀ x ∈ ext, x < s) {ys : List D} (hl : ys.length = (List.range s ++ ext).length) (hy : ∀ y ∈ ys, LineP L (List.range s ++ ext).length y) (o4 o5 o6 o8 : Option D) :
    Always (NX fun e => ∃ ys o8 o11 o12 o13 o14, ys.length = (List.range s ++ ext).length ∧ (∀ y ∈ ys, LineP L (List.range s ++ ext).length y) ∧ e = mE L p s o4 o5 o6 (some (.lst ((List.range s ++ ext).map nD))) o8 (some (.lst ys)) (some (nD m)) o11 o12 o13 o14)
    (hoB (mE L p s o4 o5 o6 (some (.lst ((List.range s ++ ext).map nD))) o8 (some (.lst ys)) (some (nD m)) none none none none)) := by
  generalize hns : List.range s ++ ext = ns at *
  have hNl : ns.length = s + ext.length := by rw [← hns]; simp
  have hlt : ∀ x ∈ ns, x < s := fun x h => by
    rw [← hns] at h
    rcases List.mem_append.mp h with z | z
    · exact List.mem_range.mp z
    · exact hx x z
  have hat : ∀ j, j < s → at1 ns j = j := fun j hj => by
    rw [← hns]
    unfold at1
    rw [List.getD_eq_getElem?_getD, List.getElem?_append_left (by simpa using hj), List.getElem?_range hj]
    rfl
  have h60 : SZ = 16777216 := rfl
  unfold hoB
  refine asg_d (d := .lst []) rfl ?_
  refine seq_a (I := fun e => ∃ rs o12, rs.length = s ∧ (∀ y ∈ rs, RowP L s y) ∧ e = mE L p s o4 o5 o6 (some (.lst (ns.map nD))) o8 (some (.lst ys)) (some (nD m)) (some (.lst rs)) o12 none none) ?_ ?_
  · rw [for_eq, irng_n (n := s) rfl (by omega), bind_ok]
    refine (forR_a (fun j e => ∃ rs o12, rs.length = j ∧ (∀ y ∈ rs, RowP L s y) ∧ e = mE L p s o4 o5 o6 (some (.lst (ns.map nD))) o8 (some (.lst ys)) (some (nD m)) (some (.lst rs)) o12 none none) ⟨[], none, rfl, by simp, rfl⟩ ?_).mono ?_
    · rintro j _ hj ⟨rs, o12, h1, h2, rfl⟩
      show Always _ (app 11 _ (mE L p s o4 o5 o6 (some (.lst (ns.map nD))) o8 (some (.lst ys)) (some (nD m)) (some (.lst rs)) (some (nD j)) none none))
      have hrow := lc_a (B := s) (it := irng1 (var 1)) (vs := [6]) (j := 6) (elt := call m_law_take (argC (var 0) (argC (var 3) argN))) (e := mE L p s o4 o5 o6 (some (.lst (ns.map nD))) o8 (some (.lst ys)) (some (nD m)) (some (.lst rs)) (some (nD j)) none none) (irng_n (n := L) rfl (by omega)) (by rw [List.length_map, List.length_range]; omega) fun x _ => take_a s rfl rfl (by omega) (by omega)
      rw [List.length_map, List.length_range] at hrow
      refine app_a (xs := rs) rfl (by omega) hrow ?_
      intro d hd
      refine ⟨_, rfl, rs ++ [d], some (nD j), by simp [h1], fun y hyy => ?_, rfl⟩
      rcases List.mem_append.mp hyy with z | z
      · exact h2 y z
      · rw [List.mem_singleton.mp z]; exact hd
    · rintro _ ⟨e, rfl, rs, o12, h1, h2, rfl⟩
      exact ⟨_, rfl, rs, o12, h1, h2, rfl⟩
  rintro _ ⟨rs, o12, hr1, hr2, rfl⟩
  refine asg_d (d := .lst []) rfl ?_
  refine seq_a (I := fun e => ∃ hs o12, hs.length = s ∧ (∀ y ∈ hs, HomeP ns.length y) ∧ e = mE L p s o4 o5 o6 (some (.lst (ns.map nD))) o8 (some (.lst ys)) (some (nD m)) (some (.lst rs)) o12 (some (.lst hs)) none) ?_ ?_
  · rw [for_eq, irng_n (n := s) rfl (by omega), bind_ok]
    refine (forR_a (fun j e => ∃ hs o12, hs.length = j ∧ (∀ y ∈ hs, HomeP ns.length y) ∧ e = mE L p s o4 o5 o6 (some (.lst (ns.map nD))) o8 (some (.lst ys)) (some (nD m)) (some (.lst rs)) o12 (some (.lst hs)) none) ⟨[], o12, rfl, by simp, rfl⟩ ?_).mono ?_
    · rintro j _ hj ⟨hs, o12, h1, h2, rfl⟩
      show Always _ (app 13 _ (mE L p s o4 o5 o6 (some (.lst (ns.map nD))) o8 (some (.lst ys)) (some (nD m)) (some (.lst rs)) (some (nD j)) (some (.lst hs)) none))
      have hc : lcE (irng1 (un blen (var 7))) [8] (gnm 8) (tst (bin oeq (bin oidx (var 7) (var 8)) (var 12))) (var 8) (mE L p s o4 o5 o6 (some (.lst (ns.map nD))) o8 (some (.lst ys)) (some (nD m)) (some (.lst rs)) (some (nD j)) (some (.lst hs)) none) = .ok (.lst (((List.range ns.length).filter fun k => decide (at1 ns k = j)).map nD)) := by
        unfold lcE
        rw [irng_n (n := ns.length) (len7 hL1 hL) (by omega), bind_ok, compL_fil (p := fun k => decide (at1 ns k = j)) fun k hk => ?_]
        · show chk ((List.range ns.length).map nD).length _ = _
          exact chk_ok (by rw [List.length_map, List.length_range]; omega)
        · have hk := List.mem_range.mp hk
          unfold compF
          show ((((Res.ok (D.lst (ns.map nD)) >>= fun a => Res.ok (nD k) >>= fun b => oidx a b) >>= fun a => Res.ok (nD j) >>= fun b => oeq a b) >>= truthy) >>= fun b => if b = true then Res.ok (nD k) >>= fun y => Res.ok (some y) else Res.ok none) = _
          rw [bind_ok, bind_ok, idx_nL hk, bind_ok, bind_ok, nat_eq]
          show (if decide (at1 ns k = j) = true then _ else _) = _
          cases decide (at1 ns k = j) <;> rfl
      have hP : HomeP ns.length (.lst (((List.range ns.length).filter fun k => decide (at1 ns k = j)).map nD)) := by
        refine ⟨_, rfl, List.length_pos_of_mem (a := j) (List.mem_filter.mpr ⟨List.mem_range.mpr (by omega), ?_⟩), Nat.le_trans (List.length_filter_le _ _) (by simp), fun x hxx => List.mem_range.mp (List.mem_filter.mp hxx).1⟩
        simpa using hat j hj
      refine app_a (xs := hs) (Q := HomeP ns.length) rfl (by omega) (by rw [hc]; exact hP) ?_
      intro d hd
      refine ⟨_, rfl, hs ++ [d], some (nD j), by simp [h1], fun y hyy => ?_, rfl⟩
      rcases List.mem_append.mp hyy with z | z
      · exact h2 y z
      · rw [List.mem_singleton.mp z]; exact hd
    · rintro _ ⟨e, rfl, hs, o12, h1, h2, rfl⟩
      exact ⟨_, rfl, hs, o12, h1, h2, rfl⟩
  rintro _ ⟨hs, o12, hh1, hh2, rfl⟩
  rw [for_eq, irng_n (n := ns.length) (len7 hL1 hL) (by omega), bind_ok]
  refine (forR_a (fun j e => ∃ ys o8, ys.length = ns.length ∧ (∀ y ∈ ys, LineP L ns.length y) ∧ e = mE L p s o4 o5 o6 (some (.lst (ns.map nD))) o8 (some (.lst ys)) (some (nD m)) (some (.lst rs)) o12 (some (.lst hs)) none) ⟨ys, o8, hl, hy, rfl⟩ ?_).mono ?_
  · rintro j _ hj ⟨ys, o8, h1, h2, rfl⟩
    show Always _ (setL 9 _ _ (mE L p s o4 o5 o6 (some (.lst (ns.map nD))) (some (nD j)) (some (.lst ys)) (some (nD m)) (some (.lst rs)) o12 (some (.lst hs)) none))
    have hj2 : at1 ns j < rs.length := by rw [hr1]; exact hlt _ (at1_mem hj)
    obtain ⟨r, er, ra, rb⟩ := hr2 rs[at1 ns j] (List.getElem_mem hj2)
    have hit : iseq (bin oidx (var 11) (bin oidx (var 7) (var 8))) (mE L p s o4 o5 o6 (some (.lst (ns.map nD))) (some (nD j)) (some (.lst ys)) (some (nD m)) (some (.lst rs)) o12 (some (.lst hs)) none) = .ok (r.map nD) := by
      have : bin oidx (var 11) (bin oidx (var 7) (var 8)) (mE L p s o4 o5 o6 (some (.lst (ns.map nD))) (some (nD j)) (some (.lst ys)) (some (nD m)) (some (.lst rs)) o12 (some (.lst hs)) none) = .ok (.lst (r.map nD)) := by
        show (Res.ok (D.lst rs) >>= fun a => (Res.ok (D.lst (ns.map nD)) >>= fun a => Res.ok (nD j) >>= fun b => oidx a b) >>= fun b => oidx a b) = _
        have q : oidx (.lst rs) (nD (at1 ns j)) = .ok rs[at1 ns j] := oidx_l (k := at1 ns j) (List.getElem?_eq_getElem hj2)
        rw [bind_ok, bind_ok, bind_ok, idx_nL hj, bind_ok, q, er]
      unfold iseq
      rw [this]
      rfl
    refine setL_a (xs := ys) (Q := LineP L ns.length) rfl ?_ rfl (by omega) fun d hd => ?_
    · rw [un_eq]
      refine (lc_a (B := ns.length) hit (by rw [List.length_map]; omega) fun x hxx => ?_).bind ?_
      · obtain ⟨t, ht, rfl⟩ := List.mem_map.mp hxx
        have hth : t < hs.length := by rw [hh1]; exact rb t ht
        obtain ⟨g, eg, g1, g2, g3⟩ := hh2 hs[t] (List.getElem_mem hth)
        have hgt : bin oidx (var 13) (var 14) (mE L p s o4 o5 o6 (some (.lst (ns.map nD))) (some (nD j)) (some (.lst ys)) (some (nD m)) (some (.lst rs)) o12 (some (.lst hs)) (some (nD t))) = .ok (.lst (g.map nD)) := by
          show oidx (.lst hs) (nD t) = _
          have q : oidx (.lst hs) (nD t) = .ok hs[t] := oidx_l (k := t) (List.getElem?_eq_getElem hth)
          rw [q, eg]
        show Always _ (bin oidx (bin oidx (var 13) (var 14)) (call m_law_take (argC (var 0) (argC (un blen (bin oidx (var 13) (var 14))) argN))) (mE L p s o4 o5 o6 (some (.lst (ns.map nD))) (some (nD j)) (some (.lst ys)) (some (nD m)) (some (.lst rs)) o12 (some (.lst hs)) (some (nD t))))
        rw [bin_eq, hgt, bind_ok]
        have hlen : un blen (bin oidx (var 13) (var 14)) (mE L p s o4 o5 o6 (some (.lst (ns.map nD))) (some (nD j)) (some (.lst ys)) (some (nD m)) (some (.lst rs)) o12 (some (.lst hs)) (some (nD t))) = .ok (nD g.length) := by
          rw [un_eq, hgt, bind_ok, ← List.length_map (f := nD) (as := g)]
          rfl
        refine (take_a g.length rfl hlen g1 (by omega)).bind ?_
        rintro _ ⟨a, ha, rfl⟩
        rw [idx_nL ha]
        exact ⟨_, g3 _ (at1_mem ha), rfl⟩
      · rintro _ ⟨q, rfl, q1, q2⟩
        exact ⟨q, rfl, by rw [q1, List.length_map, ra], q2⟩
    · refine ⟨_, rfl, ys.set j d, some (nD j), by rw [List.length_set]; exact h1, fun y hyy => ?_, rfl⟩
      rcases List.mem_or_eq_of_mem_set hyy with z | z
      · exact h2 y z
      · rw [z]; exact hd
  · rintro _ ⟨e, rfl, ys, o8, h1, h2, rfl⟩
    exact ⟨_, rfl, ys, o8, some (.lst rs), o12, some (.lst hs), none, h1, h2, rfl⟩
end
end Py.U
namespace Py.U
open PySem
theorem tst_lt {e : Env} {i p c : Nat} (h : var i e = .ok (nD p)) : tst (bin olt (var i) (cst (nD c))) e = .ok (decide (p < c)) := by
  rw [tst_eq, bin_eq, h, bind_ok, cst_eq, bind_ok, olt_n]
  rfl
theorem tst_eq2 {e : Env} {i p c : Nat} (h : var i e = .ok (nD p)) : tst (bin oeq (var i) (cst (nD c))) e = .ok (decide (p = c)) := by
  rw [tst_eq, bin_eq, h, bind_ok, cst_eq, bind_ok, nat_eq]
  rfl
theorem skip_a {I : Env → Prop} {e : Env} (h : I e) : Always (NX I) (skip e) := ⟨e, rfl, h⟩
def MachP (L : Nat) (d : D) : Prop := ∃ S nx os, d = .tup [.lst (nx.map rD), .lst (os.map rD)] ∧ Tbl S L S nx ∧ Tbl S L 2 os ∧ 0 < S ∧ S ≤ 46
theorem mach_a {L : Nat} (hL1 : 1 ≤ L) (hL : L ≤ 8) : Always (MachP L) (m_law_machine [drwT, nD L]) := by
  show Always _ (done (b__law_machine [some drwT, some (nD L), none, none, none, none, none, none, none, none, none, none, none, none, none]))
  unfold b__law_machine
  refine done_r ?_
  have h60 : SZ = 16777216 := rfl
  refine asg_a (take_a 4 rfl rfl (by omega) (by omega)) ?_
  rintro _ ⟨p, hp, rfl⟩
  refine asg_a (Q := fun d => ∃ s : Nat, 1 ≤ s ∧ s ≤ 6 ∧ d = nD s) (one_a (xs := [nD 1, nD 1, nD 2, nD 3, nD 4, nD 5, nD 6]) rfl (take_a 7 rfl rfl (by omega) (by omega)) ?_) ?_
  · intro x hx
    simp only [List.mem_cons, List.not_mem_nil, or_false] at hx
    rcases hx with rfl | rfl | rfl | rfl | rfl | rfl | rfl
    · exact ⟨1, by omega, by omega, rfl⟩
    · exact ⟨1, by omega, by omega, rfl⟩
    · exact ⟨2, by omega, by omega, rfl⟩
    · exact ⟨3, by omega, by omega, rfl⟩
    · exact ⟨4, by omega, by omega, rfl⟩
    · exact ⟨5, by omega, by omega, rfl⟩
    · exact ⟨6, by omega, by omega, rfl⟩
  rintro _ ⟨s, hs1, hs, rfl⟩
  refine asg_a (outs_a (p := p) hL1 hL hs) ?_
  rintro _ ⟨ys0, rfl, hl0, hy0⟩
  refine seq_a (I := fun e => ∃ ys, ys.length = s ∧ (∀ y ∈ ys, LineP L 2 y) ∧ e = mE L p s (some (.lst ys)) none none none none none none none none none none) ?_ ?_
  · refine ite_a (tst_lt (p := p) (c := 3) rfl) (fun _ => ?_) fun _ => skip_a ⟨ys0, hl0, hy0, rfl⟩
    refine asg_1 (same_a (p := p) hL1 hL hs1 hs hl0 hy0) ?_
    rintro _ ⟨ys, rfl, hl, hy⟩
    exact ⟨_, rfl, ys, hl, hy, rfl⟩
  rintro _ ⟨ys1, hl1, hy1, rfl⟩
  refine seq_a (I := fun e => ∃ ys o5 o6, ys.length = s ∧ (∀ y ∈ ys, LineP L 2 y) ∧ e = mE L p s (some (.lst ys)) o5 o6 none none none none none none none none) ?_ ?_
  · exact ite_a (tst_eq2 (p := p) (c := 2) rfl) (fun _ => turn_a (p := p) hL1 hL hs1 hs hl1 hy1) fun _ => skip_a ⟨ys1, none, none, hl1, hy1, rfl⟩
  rintro _ ⟨ys, o5, o6, hl, hy, rfl⟩
  refine asg_d (d := .lst ((List.range s).map nD)) ?_ ?_
  · unfold lrngE
    rw [irng_n (n := s) rfl (by omega), bind_ok, if_pos (by rw [List.length_map, List.length_range]; omega)]
  refine seq_a (names_a (p := p) hL1 hL hs1 hs (some (.lst ys)) o5 o6) ?_
  rintro _ ⟨ext, o8, he, hx, rfl⟩
  generalize hns : List.range s ++ ext = ns
  have hNl : ns.length = s + ext.length := by rw [← hns]; simp
  have hlt : ∀ x ∈ ns, x < s := fun x h => by
    rw [← hns] at h
    rcases List.mem_append.mp h with z | z
    · exact List.mem_range.mp z
    · exact hx x z
  refine asg_d (d := .lst []) rfl ?_
  refine seq_a (zeros_a (p := p) (s := s) (ns := ns) hL1 hL (by omega) (by omega) (some (.lst ys)) o5 o6 o8) ?_
  rintro _ ⟨zs, o8, hz1, hz2, rfl⟩
  refine asg_a (Q := fun d => ∃ m : Nat, 1 ≤ m ∧ m ≤ ns.length ∧ d = nD m) (one_a (xs := [nD 1, nD s, nD ns.length]) ?_ (take_a 3 rfl rfl (by omega) (by omega)) ?_) ?_
  · rw [tupE_eq]
    simp only [argC_eq, cst_eq, bind_ok, len7 hL1 hL]
    rfl
  · intro x hx
    simp only [List.mem_cons, List.not_mem_nil, or_false] at hx
    rcases hx with rfl | rfl | rfl
    · exact ⟨1, by omega, by omega, rfl⟩
    · exact ⟨s, by omega, by omega, rfl⟩
    · exact ⟨ns.length, by omega, by omega, rfl⟩
  rintro _ ⟨m, hm1, hm, rfl⟩
  refine seq_a (I := fun e => ∃ zs o8 o11 o12 o13 o14, zs.length = ns.length ∧ (∀ y ∈ zs, LineP L ns.length y) ∧ e = mE L p s (some (.lst ys)) o5 o6 (some (.lst (ns.map nD))) o8 (some (.lst zs)) (some (nD m)) o11 o12 o13 o14) ?_ ?_
  · refine ite_a (tst_lt (p := p) (c := 2) rfl) (fun _ => free_a (p := p) (s := s) hL1 hL (by omega) (by omega) hm1 hm hz1 hz2 (some (.lst ys)) o5 o6 o8 none none none none) fun _ => ?_
    have := home_a (p := p) (m := m) hL1 hL hs1 hs he hx (ys := zs) (by rw [hns]; exact hz1) (by rw [hns]; exact hz2) (some (.lst ys)) o5 o6 o8
    rw [hns] at this
    exact this
  rintro _ ⟨ws, o8, o11, o12, o13, o14, hw1, hw2, rfl⟩
  refine ret_r ?_
  have hout : Always (LstP (ns.map nD).length (LineP L 2)) (lcE (iseq (var 7)) [12] (gnm 12) yes (bin oidx (var 4) (var 12)) (mE L p s (some (.lst ys)) o5 o6 (some (.lst (ns.map nD))) o8 (some (.lst ws)) (some (nD m)) o11 o12 o13 o14)) := by
    refine lc_g rfl (by rw [List.length_map]; omega) fun x hxx => ?_
    obtain ⟨t, ht, rfl⟩ := List.mem_map.mp hxx
    have htl : t < ys.length := by rw [hl]; exact hlt t ht
    show Always _ (oidx (.lst ys) (nD t))
    have q : oidx (.lst ys) (nD t) = .ok ys[t] := oidx_l (k := t) (List.getElem?_eq_getElem htl)
    rw [q]
    exact hy _ (List.getElem_mem htl)
  rw [List.length_map] at hout
  obtain ⟨nx, en, hn⟩ := tbl_of hw1 hw2
  rw [tupE_eq, argC_eq, var_at (d := .lst ws) rfl, bind_ok, argC_eq]
  refine Always.bind (Q := fun xs => ∃ os, Tbl ns.length L 2 os ∧ xs = [.lst ws, .lst (os.map rD)]) (Always.bind (Q := fun xs => ∃ os, Tbl ns.length L 2 os ∧ xs = [.lst (os.map rD)]) (hout.bind ?_) ?_) ?_
  · rintro _ ⟨zs, rfl, z1, z2⟩
    obtain ⟨os, eo, ho⟩ := tbl_of z1 z2
    exact ⟨os, ho, by rw [eo]⟩
  · rintro _ ⟨os, ho, rfl⟩
    exact ⟨os, ho, rfl⟩
  · rintro _ ⟨os, ho, rfl⟩
    rw [en]
    exact ⟨ns.length, nx, os, rfl, hn, ho, by omega, by omega⟩
end Py.U
namespace Py.U
open PySem
theorem nexts_ok_t {S L : Nat} {nx : List (List Nat)} (h : Tbl S L S nx) (hS : 0 < S) (hz : S ≤ 1000) (hL : L ≤ 1000) : m_right_nexts [.tup (nx.map rD), nD L] = .ok (.tup (nx.map rD)) := by
  have q1 := as_tup_t (nx.map rD)
  have q2 : truthy (.tup (nx.map rD)) = .ok true := by
    cases hx : nx with
    | nil =>
      have := h.len
      rw [hx] at this
      simp at this
      omega
    | cons a b => simp [truthy]
  have q3 : blen (.tup (nx.map rD)) = .ok (nD S) := by
    rw [blen_t, List.length_map, h.len]
    rfl
  have loop : ∃ e', forL (forB (gtup [(gnm 3), (gnm 4)]) (Py.ite (notT (tst (call m_is_line (argC (var 4) (argC (var 1) (argC (un blen (var 2)) argN)))))) (rais "InvalidMachine" ["part", "place"] (argC (cst (.str "nexts")) (argC (var 3) argN))) skip)) (enumL 0 (nx.map rD)) [some (.tup (nx.map rD)), some (nD L), some (.tup (nx.map rD)), none, none] = .ok (.next e') ∧ ∃ o3 o4, e' = [some (.tup (nx.map rD)), some (nD L), some (.tup (nx.map rD)), o3, o4] := by
    refine forL_inv (fun k e => ∃ o3 o4, e = [some (.tup (nx.map rD)), some (nD L), some (.tup (nx.map rD)), o3, o4]) 0 ⟨none, none, rfl⟩ ?_
    rintro k e hk ⟨o3, o4, rfl⟩
    have hk2 : k < nx.length := by
      rw [enum_len, List.length_map] at hk
      exact hk
    obtain ⟨h1, h2⟩ := h.row nx[k] (List.getElem_mem hk2)
    have q := line_ok h1 h2 hL
    rw [enum_at hk (by simpa using hk2), List.getElem_map, Nat.zero_add]
    generalize (k : Int) = z at *
    generalize rD nx[k] = R at *
    generalize nx.map rD = NX at *
    generalize nD L = l at *
    generalize nD S = s at *
    exact ⟨[some (.tup NX), some l, some (.tup NX), some (.int z), some R], by simp [var, gtup, gtupL, q, q3], _, _, rfl⟩
  obtain ⟨e', q4, o3, o4, rfl⟩ := loop
  have q5 : ienum (var 2) [some (.tup (nx.map rD)), some (nD L), some (.tup (nx.map rD)), none, none] = .ok (enumL 0 (nx.map rD)) := rfl
  unfold m_right_nexts
  rw [fn2]
  unfold b_right_nexts
  generalize hNX : nx.map rD = NX at *
  generalize nD L = l at *
  generalize enumL 0 NX = E at *
  simp [var, q1, q2, q4, q5]
theorem mach_made_n {n S : Nat} {nx os : List (List Nat)} (h1 : 1 ≤ n) (h3 : n ≤ 3) (hn : Tbl S (2 ^ n) S nx) (ho : Tbl S (2 ^ n) 2 os) (hS : 0 < S) (hz : S ≤ 1000) : m_Machine [nD n, .tup (nx.map rD), .lst (os.map rD)] = .ok (macD n nx os) := by
  have hP : 2 ^ n ≤ 8 := by
    have : n = 1 ∨ n = 2 ∨ n = 3 := by omega
    rcases this with rfl | rfl | rfl <;> decide
  have q1 := inputs_ok h1 h3
  have q2 := shl_nD (n := n) (by omega)
  have q3 := nexts_ok_t hn hS hz (by omega)
  have q4 := outs_ok ho hz (by omega)
  have q5 : blen (.tup (nx.map rD)) = .ok (nD S) := by
    rw [blen_t, List.length_map, hn.len]
    rfl
  have q6 : oattr ["Machine"] "nexts" (.ins "Machine" [("inputs", nD n), ("nexts", .tup (nx.map rD))]) = .ok (.tup (nx.map rD)) := rfl
  have key : b_Machine_init [some (.ins "Machine" []), some (nD n), some (.tup (nx.map rD)), some (.lst (os.map rD)), none] = .ok (.next [some (macD n nx os), some (nD n), some (.tup (nx.map rD)), some (.lst (os.map rD)), some (nD (2 ^ n))]) := by
    unfold b_Machine_init macD
    generalize nx.map rD = NX at *
    generalize os.map rD = OS at *
    generalize nD (2 ^ n) = P at *
    generalize nD n = N at *
    generalize nD S = s at *
    simp [var, q1, q2, q3, q4, q5, q6, setF, putF]
  exact made_eq rfl key
/-! ### what is found -/
structure FoundP (n : Nat) (nx os : List (List Nat)) (F : D) : Prop where
  eq : m_logic_row [macD n nx os] = .ok F
  right : m_law_right [F, nD n, .lst (nx.map rD), .lst (os.map rD)] = .ok (.bl true)
  row : F = .non ∨ ∃ ys o, F = rowD n ys o
theorem found_ok {n S : Nat} {nx os : List (List Nat)} (h1 : 1 ≤ n) (h3 : n ≤ 3) (h : Tbl S (2 ^ n) S nx) (ho : Tbl S (2 ^ n) 2 os) (h0 : 0 < S) (hz : S ≤ 46) : ∃ F, FoundP n nx os F := by
  obtain ⟨l1, l2⟩ := logic_ok h1 h3 h ho h0 (by omega)
  obtain ⟨_, _, _, r, g4⟩ := fndM_ok h ho.len h0
  have hs := one_state_ok h ho h0 (by omega)
  by_cases q : (fndM nx os).length = 1
  · obtain ⟨ys, o, e, W⟩ := l2 q
    rw [decide_eq_true q] at hs
    exact ⟨_, e, right_ok h1 h3 ho h0 W hs, .inr ⟨ys, o, rfl⟩⟩
  · have q2 : 1 < (fndM nx os).length := by
      have : 1 ≤ (fndM nx os).length := by rw [g4]; simp
      omega
    rw [decide_eq_false q] at hs
    exact ⟨.non, l1 q2, right_none hs, .inl rfl⟩
theorem asg_t {P : Fl → Prop} {Q : D → Prop} {i j : Nat} {m : EM} {r : SM} {e : Env} (h : Always Q (m e)) (k : ∀ d, Q d → ∃ a b, d = .tup [a, b] ∧ Always P (r ((e.set i (some a)).set j (some b)))) : Always P (seq (asg (gtup [(gnm i), (gnm j)]) m) r e) := by
  rw [seq_eq, asg_eq]
  refine Always.bind (Q := fun f => ∃ e', f = .next e' ∧ Always P (r e')) (h.bind fun d hd => ?_) ?_
  · obtain ⟨a, b, rfl, hk⟩ := k d hd
    exact ⟨_, rfl, hk⟩
  · rintro _ ⟨e', rfl, hk⟩
    exact hk
theorem eqvL_deeds : ∀ a b : List Deed, eqv.eqvL (a.map Deed.d) (b.map Deed.d) = decide (a = b)
  | [], [] => rfl
  | [], _ :: _ => rfl
  | _ :: _, [] => rfl
  | x :: a, y :: b => by
    simp only [List.map_cons, eqv.eqvL, deed_eqv, eqvL_deeds a b, List.cons.injEq]
    by_cases q : x = y <;> simp [q]
theorem pl_deed (k : Nat) (x : Deed) : pl (k + 2) x.d = true := by
  cases x <;> first | rfl | skip
  rename_i p r ps
  show pl (k + 2) (.tup [.str "count", nD p, nD r, .tup (ps.map nD)]) = true
  have : (ps.map nD).all (pl k) = true := by
    simp only [List.all_map, List.all_eq_true]
    exact fun x _ => pl_nD _ x
  simp only [pl, List.all_cons, List.all_nil, pl_nD, this, Bool.and_self]
theorem eq_deeds (ys : List Deed) : oeq (.tup (ys.map Deed.d)) (.tup (ys.map Deed.d)) = .ok (.bl true) := by
  have hp : plain (.tup (ys.map Deed.d)) = true := by
    show pl 64 (.tup (ys.map Deed.d)) = true
    simp only [pl, List.all_map, List.all_eq_true]
    exact fun x _ => pl_deed _ x
  unfold oeq
  rw [hp]
  show Res.ok (D.bl (eqv.eqvL (ys.map Deed.d) (ys.map Deed.d))) = _
  rw [eqvL_deeds, decide_eq_true rfl]
theorem mach_1 {e : Env} {n : Nat} (h1 : 1 ≤ n) (h3 : n ≤ 3) (h : var 1 e = .ok drwT) (h2 : var 2 e = .ok (nD n)) : Always (MachP (2 ^ n)) (call m_law_machine (argC (var 1) (argC (bin oshl (cst (.int 1)) (var 2)) argN)) e) := by
  have hs : bin oshl (cst (.int 1)) (var 2) e = .ok (nD (2 ^ n)) := by
    rw [bin_eq, cst_eq, bind_ok, h2, bind_ok]
    exact shl_nD (by omega)
  rw [call_eq, argC_eq, h, bind_ok, argC_eq, hs]
  exact mach_a (Nat.one_le_two_pow) (pow3 h1 h3)
theorem ask_ok {cs : List D} (hc : (allI cs).isSome = true) : Always (fun d => d = .bl true) (m_law_asked [.lst cs]) := by
  generalize hSC : D.lst cs = SC
  show Always _ (done (b__law_asked [some SC, none, none, none, none, none, none, none, none, none]))
  unfold b__law_asked
  refine done_r ?_
  refine asg_d (d := drwT) ?_ ?_
  · rw [← hSC]
    show mkpF (.lst [.lst cs, .int 0, .int 0, .int 0, .int 1]) = _
    show (if (allI cs).isSome = true ∧ _ then _ else _) = _
    rw [if_pos ⟨hc, by omega, by omega, by omega⟩]
  refine asg_a (Q := fun d => ∃ n : Nat, 1 ≤ n ∧ n ≤ 3 ∧ d = nD n) (one_a (xs := [nD 1, nD 1, nD 2, nD 3]) rfl (pickc (Q := fun d => ∃ a : Nat, a < 4 ∧ d = nD a) 4 rfl rfl rfl (by omega) (by omega) fun i hi => ⟨i, hi, rfl⟩) ?_) ?_
  · intro x hx
    simp only [List.mem_cons, List.not_mem_nil, or_false] at hx
    rcases hx with rfl | rfl | rfl | rfl
    · exact ⟨1, by omega, by omega, rfl⟩
    · exact ⟨1, by omega, by omega, rfl⟩
    · exact ⟨2, by omega, by omega, rfl⟩
    · exact ⟨3, by omega, by omega, rfl⟩
  rintro _ ⟨n, h1, h3, rfl⟩
  refine asg_t (mach_1 (n := n) h1 h3 rfl rfl) ?_
  rintro _ ⟨S, nx, os, rfl, hn, ho, hS0, hS⟩
  refine ⟨_, _, rfl, ?_⟩
  obtain ⟨F, hF⟩ := found_ok h1 h3 hn ho hS0 hS
  have mm := mach_made_t h1 h3 hn ho hS0 (by omega)
  have mn := mach_made_n h1 h3 hn ho hS0 (by omega)
  have hlist : ∀ xs : List D, xs.length ≤ SZ → blist (.lst xs) = .ok (.lst xs) := fun xs h => rfl
  refine asg_d (d := macD n nx os) mm ?_
  refine asg_d (d := F) hF.eq ?_
  have ht : ∀ {e : Env} {F NX OS : D}, m_law_right [F, nD n, NX, OS] = .ok (.bl true) → call m_law_right (argC (var 6) (argC (var 2) (argC (var 3) (argC (var 4) argN)))) e = m_law_right [F, nD n, NX, OS] → notT (tst (call m_law_right (argC (var 6) (argC (var 2) (argC (var 3) (argC (var 4) argN)))))) e = .ok false := fun hr he => by
    refine notT_t ?_
    rw [tst_eq, he, hr]
    rfl
  refine chk_p1 (ht hF.right rfl) ?_
  refine asg_t (mach_1 (n := n) h1 h3 rfl rfl) ?_
  rintro _ ⟨S2, nx2, os2, rfl, hn2, ho2, hS02, hS2⟩
  refine ⟨_, _, rfl, ?_⟩
  obtain ⟨F2, hF2⟩ := found_ok h1 h3 hn2 ho2 hS02 hS2
  have mn2 := mach_made_n h1 h3 hn2 ho2 hS02 (by omega)
  refine chk_p1 (notT_t ?_) ?_
  · rw [tst_eq]
    show (((((m_Machine [nD n, .tup (nx2.map rD), .lst (os2.map rD)] >>= fun x => Res.ok [x]) >>= kwc 1 [0] m_logic_row) >>= fun x => Res.ok [x, nD n, .lst (nx2.map rD), .lst (os2.map rD)]) >>= m_law_right) >>= truthy) = _
    rw [mn2, bind_ok, bind_ok]
    show (((m_logic_row [macD n nx2 os2] >>= fun x => Res.ok [x, nD n, .lst (nx2.map rD), .lst (os2.map rD)]) >>= m_law_right) >>= truthy) = _
    rw [hF2.eq, bind_ok, bind_ok, hF2.right]
    rfl
  refine asg_d (d := F) ?_ ?_
  · show ((m_Machine [nD n, .tup (nx.map rD), .lst (os.map rD)] >>= fun x => Res.ok [x]) >>= m_logic_row) = _
    rw [mn, bind_ok, bind_ok, hF.eq]
  rcases hF.row with hN | ⟨ys, o, hR⟩
  · subst hN
    rw [seq_eq, ite_eq]
    exact ⟨_, rfl, rfl⟩
  · subst hR
    refine chk_p1 rfl ?_
    refine ret_1 (d := .bl true) ?_ rfl
    show ((m_law_right [rowD n ys o, nD n, .lst (nx.map rD), .lst (os.map rD)]) >>= fun x => match x with | .bl true => (oeq (.tup (ys.map Deed.d)) (.tup (ys.map Deed.d)) >>= fun x => match x with | .bl true => oeq (nD o) (nD o) | .bl false => Res.ok (D.bl false) | _ => .stuck) | .bl false => Res.ok (D.bl false) | _ => .stuck) = _
    rw [hF.right, bind_ok]
    dsimp only
    rw [eq_deeds, bind_ok]
    dsimp only
    rw [nat_eq, decide_eq_true rfl]
/-- the script's cells as a pool -/
theorem allI_map : ∀ ns : List Int, (allI (ns.map .int)).isSome = true
  | [] => rfl
  | n :: ns => by
    have ih := allI_map ns
    show ((allI (ns.map .int)).map (n :: ·)).isSome = true
    cases h : allI (ns.map .int) with
    | none => rw [h] at ih; cases ih
    | some r => rfl
theorem law_true (ns : List Int) (h : ns.length ≤ 63) : Always (fun d => d = .bl true) (m_law [.lst (ns.map .int)]) := by
  unfold m_law
  rw [fn1]
  unfold b_law
  refine done_r ?_
  rw [thru_eq]
  refine Always.noexc (ret_r ?_)
  exact ask_ok (allI_map ns)
end Py.U
open PySem PySem.W PySem.Calls PyProof.Rows
theorem PySem.Challenge.cw_onlycarries_k36_logic_rows_holds : PySem.Challenge.rw_onlycarries_k36_logic_rows.Holds := by
  w_on; o_law
  refine HandSHeadRun.head_any (r := OpenLaw.row PySem.Challenge.rw_onlycarries_k36_logic_rows) (q := view (OpenLaw.row PySem.Challenge.rw_onlycarries_k36_logic_rows).prog [53]) (H := Py.hkY) (ob := Py.ob) (M := 8000) (loose := Py.lo) (d := HandSHeadRun.topDef (OpenLaw.row PySem.Challenge.rw_onlycarries_k36_logic_rows).prog 53) (kwd := []) Py.ob_eq
    (by kernel_rfl) (fun s => by kernel_rfl) Py.run (by kernel_rfl) (by kernel_rfl) (by kernel_rfl) (by rfl) (by first | assumption | decide +kernel) (by decide +kernel) ⟨rfl, rfl, rfl, rfl, rfl, by decide +kernel⟩ ?hw ?hc
  case hw => w_witness2
  case hc =>
    refine Py.walk_ofW (l := PySem.Challenge.rw_onlycarries_k36_logic_rows) (n := 63) (k := 11) (x := "script") (CX := fun w => L2N.CX PySem.Challenge.pw_onlycarries_k36_logic_rows w) rfl (by decide) (by kernel_rfl) ⟨rfl, by decide, by decide⟩ ?F (fun _ _ _ _ _ z => Py.cx_none z)
    intro w mg fa h Y G hmg0
    letI wi : Py.WI := ⟨w⟩
    haveI hw : Py.HW w := ⟨rfl⟩
    obtain ⟨K, KX, c, m, xq⟩ := Y
    have hmg : mg ("law" : PySem.Str) = some (.ref fa) := by
      have e : (HandSHeadRun.topDef (OpenLaw.row PySem.Challenge.rw_onlycarries_k36_logic_rows).prog 53).name = ("law" : PySem.Str) := by kernel_rfl
      rw [← e]
      exact hmg0
    have YY : Py.Fs (PySem.Challenge.rw_onlycarries_k36_logic_rows).prog w K mg := ⟨⟨c, m, h, KX, G⟩, xq, by kernel_rfl, by kernel_rfl⟩
    have e2 := hmg.symm.trans (YY.glo 55)
    cases e2
    obtain ⟨fd, hb, hF⟩ := Py.law_is (P := (PySem.Challenge.rw_onlycarries_k36_logic_rows).prog) YY
    exact ⟨K, fd, _, KX, hb, fun H a ns hl _ hS => Py.sp_lawA YY.noL (Py.U.law_true ns hl) hS, fun base _ _ => hF base⟩
