import PyProof.Rows.All
import Wide.All
import OpenK.AllK
import Wide.FinOn
import HandS.ForMost
import HandS.WideBits
import HandS.Exc
import HandS.TryOnly
import HandS.ExcOwn
import HandS.WordsExc
import HandS.WordsList
import HandS.IsInst
import HandS.ExcCtx
import HandS.Hot
import HandS.HotCalls
import HandS.ExcIs
import HandS.ExcField
import HandS.Defaults
import HandS.Flow
import HandS.Style
import HandS.TupAny
import HandS.HeadHook1
import HandS.HeadHook2
import HandS.CallSlots
import KE.GoesEnum
import HandS.HeadEnd
import HandS.HeadHook3
import HandS.Head3
import HandS.Zip
import HandS.ExcInit
import HandS.Nested
import KE.KExcSuper
import KE.KExcIs
import HandS.TupMul
import KE.BitLaws
import HandS.Head0
import HandS.Head1
import HandS.Head2
import PySem.Challenge.RW_onlycarries_k04_faults_of_machines
set_option Elab.async false
set_option linter.all false
set_option maxRecDepth 100000
set_option maxHeartbeats 0
/-! Plain data of a small Python, and what its expressions, statements and defs compute: total Lean functions, no program in sight. -/
namespace Py
open PySem L2
inductive D where
  | non | bl (b : Bool) | int (i : Int) | str (s : String)
  | tup (xs : List D) | lst (xs : List D) | dic (kvs : List (D × D)) | ins (c : String) (fs : List (String × D))
  deriving Inhabited
inductive Res (α : Type) where
  | ok (a : α) | exc (c : String) (fs : List (String × D)) | stuck
@[reducible] def Res.bind {α β : Type} (r : Res α) (f : α → Res β) : Res β := match r with
  | .ok a => f a | .exc c fs => .exc c fs | .stuck => .stuck
instance : Monad Res := { pure := Res.ok, bind := Res.bind }
@[simp] theorem bind_ok {α β : Type} (a : α) (f : α → Res β) : (Res.ok a >>= f) = f a := rfl
@[simp] theorem bind_exc {α β : Type} (c : String) (fs) (f : α → Res β) : ((Res.exc c fs : Res α) >>= f) = .exc c fs := rfl
@[simp] theorem bind_stuck {α β : Type} (f : α → Res β) : ((Res.stuck : Res α) >>= f) = .stuck := rfl
@[simp] theorem pure_ok {α : Type} (a : α) : (pure a : Res α) = .ok a := rfl
def noexc {α : Type} : Res α → Res α
  | .ok a => .ok a | .exc _ _ => .stuck | .stuck => .stuck
@[simp] theorem noexc_ok {α : Type} (a : α) : noexc (.ok a : Res α) = .ok a := rfl
def SZ : Nat := 16777216
abbrev Env := List (Option D)
abbrev EM := Env → Res D
abbrev TM := Env → Res Bool
abbrev AM := Env → Res (List D)
inductive Fl where
  | next (e : Env) | ret (d : D) | brk (e : Env) | cnt (e : Env)
abbrev SM := Env → Res Fl
/-! ### data -/
def chk (n : Nat) (d : D) : Res D := if n ≤ SZ then .ok d else .stuck
theorem chk_ok {n : Nat} {d : D} (h : n ≤ SZ) : chk n d = .ok d := if_pos h
/-- no dict or instance within, at most n deep: == walks it -/
def pl : Nat → D → Bool
  | _, .non => true
  | _, .bl _ => true
  | _, .int _ => true
  | _, .str _ => true
  | n + 1, .tup xs => xs.all (pl n)
  | n + 1, .lst xs => xs.all (pl n)
  | _, _ => false
def plain (d : D) : Bool := pl 64 d
def b2i (b : Bool) : Int := if b then 1 else 0
/-- == of plain data -/
def eqv : D → D → Bool
  | .non, .non => true
  | .bl a, .bl b => a == b
  | .bl a, .int j => b2i a == j
  | .int i, .bl b => i == b2i b
  | .int i, .int j => i == j
  | .str a, .str b => a == b
  | .tup xs, .tup ys => eqvL xs ys
  | .lst xs, .lst ys => eqvL xs ys
  | _, _ => false
where eqvL : List D → List D → Bool
  | [], [] => true
  | x :: xs, y :: ys => eqv x y && eqvL xs ys
  | _, _ => false
inductive Ty where
  | non | bl | int | str | tup | lst | dic | cls (c : String)
  deriving DecidableEq
def isI (t : Ty) : D → Bool
  | .non => decide (t = .non)
  | .bl _ => decide (t = .bl) || decide (t = .int)
  | .int _ => decide (t = .int)
  | .str _ => decide (t = .str)
  | .tup _ => decide (t = .tup)
  | .lst _ => decide (t = .lst)
  | .dic _ => decide (t = .dic)
  | .ins c _ => decide (t = .cls c)
/-! ### operators -/
def oadd : D → D → Res D
  | .int i, .int j => .ok (.int (i + j))
  | .str a, .str b => if a.length + b.length ≤ SZ then .ok (.str (a ++ b)) else .stuck
  | .tup a, .tup b => if a.length + b.length ≤ SZ then .ok (.tup (a ++ b)) else .stuck
  | .lst a, .lst b => if a.length + b.length ≤ SZ then .ok (.lst (a ++ b)) else .stuck
  | _, _ => .stuck
def osub : D → D → Res D
  | .int i, .int j => .ok (.int (i - j))
  | _, _ => .stuck
def B64 : Nat := 18446744073709551616
def omul : D → D → Res D
  | .int i, .int j => if i.natAbs < B64 ∨ j.natAbs < B64 then .ok (.int (i * j)) else .stuck
  | _, _ => .stuck
/-- a list so many times -/
def olrep : D → D → Res D
  | .lst xs, .int k => if xs.length ≤ 1000 ∧ k.natAbs ≤ 1000 then .ok (.lst (List.replicate k.toNat xs).flatten) else .stuck
  | _, _ => .stuck
def ofdiv : D → D → Res D
  | .int i, .int j => if 0 < j ∧ j < 1073741824 then .ok (.int (i / j)) else .stuck
  | _, _ => .stuck
def omod : D → D → Res D
  | .int i, .int j => if 0 < j then .ok (.int (i % j)) else .stuck
  | _, _ => .stuck
def opow : D → D → Res D
  | .int i, .int j => if 0 ≤ j ∧ j ≤ 1000000 ∧ i.natAbs < 18446744073709551616 then .ok (.int (i ^ j.toNat)) else .stuck
  | _, _ => .stuck
def oshl : D → D → Res D
  | .int i, .int j => if 0 ≤ j ∧ (Builtin.Int.intBits i : Int) + j ≤ 134217728 then .ok (.int (i * 2 ^ j.toNat)) else .stuck
  | _, _ => .stuck
def oshr : D → D → Res D
  | .int i, .int j => if 0 ≤ j then .ok (.int (i / 2 ^ j.toNat)) else .stuck
  | _, _ => .stuck
def oand : D → D → Res D
  | .int i, .int j => .ok (.int (Builtin.bitAnd i j))
  | _, _ => .stuck
def oneg : D → Res D
  | .int i => .ok (.int (-i))
  | _ => .stuck
def opt : Option D → Res D
  | some d => .ok d
  | none => .stuck
def tyOf : D → Ty
  | .non => .non | .bl _ => .bl | .int _ => .int | .str _ => .str | .tup _ => .tup | .lst _ => .lst | .dic _ => .dic | .ins c _ => .cls c
/-- an instance's class is among these, so is a class that is asked for -/
def inCs (cs : List String) : Ty → Bool
  | .cls c => cs.contains c
  | _ => true
def oisi (cs : List String) (ts : List Ty) (d : D) : Res D := if inCs cs (tyOf d) && ts.all (fun t => inCs cs t && decide (t ≠ .non)) then .ok (.bl (ts.any fun t => isI t d)) else .stuck
def oattr (cs : List String) (f : String) : D → Res D
  | .ins c fs => if cs.contains c then opt (fs.lookup f) else .stuck
  | _ => .stuck
def olt : D → D → Res D
  | .int i, .int j => .ok (.bl (decide (i < j)))
  | _, _ => .stuck
def ole : D → D → Res D
  | .int i, .int j => .ok (.bl (decide (i ≤ j)))
  | _, _ => .stuck
def ogt : D → D → Res D
  | .int i, .int j => .ok (.bl (decide (j < i)))
  | _, _ => .stuck
def oge : D → D → Res D
  | .int i, .int j => .ok (.bl (decide (j ≤ i)))
  | _, _ => .stuck
def oeq (x y : D) : Res D := if plain x && plain y then .ok (.bl (eqv x y)) else .stuck
def one (x y : D) : Res D := if plain x && plain y then .ok (.bl (!eqv x y)) else .stuck
/-- x in ys -/
def mem (x : D) : List D → Bool
  | [] => false
  | y :: r => eqv y x || mem x r
def isNon : D → Bool
  | .non => true
  | _ => false
def oisN (x : D) : Res D := .ok (.bl (isNon x))
def onotN (x : D) : Res D := .ok (.bl (!isNon x))
def truthy : D → Res Bool
  | .non => .ok false
  | .bl b => .ok b
  | .int i => .ok (i != 0)
  | .str s => if s.length ≤ SZ then .ok (s.length != 0) else .stuck
  | .tup xs => .ok (!xs.isEmpty)
  | .lst xs => .ok (!xs.isEmpty)
  | _ => .stuck
def onb : D → Res D
  | .bl k => .ok (.bl (!k))
  | _ => .stuck
/-! ### subscripts -/
def find (k : D) : List (D × D) → Option D
  | [] => none
  | (a, v) :: r => if eqv a k then some v else find k r
def oidx : D → D → Res D
  | .lst xs, .int i => opt (atI xs i)
  | .tup xs, .int i => opt (atI xs i)
  | .str s, .int i => if s.length ≤ SZ then opt ((atI s.toList i).map fun c => .str (String.ofList [c])) else .stuck
  | .dic kvs, k => opt (find k kvs)
  | _, _ => .stuck
/-- the items from lo up to hi -/
def cut {α : Type} (xs : List α) (lo hi : Option Int) : List α := (xs.drop (HT.sIx xs.length 0 lo)).take (HT.sIx xs.length xs.length hi - HT.sIx xs.length 0 lo)
def oslc : D → Option Int → Option Int → Res D
  | .lst xs, lo, hi => .ok (.lst (cut xs lo hi))
  | .tup xs, lo, hi => .ok (.tup (cut xs lo hi))
  | .str s, lo, hi => if s.length ≤ SZ then .ok (.str (String.ofList (cut s.toList lo hi))) else .stuck
  | _, _, _ => .stuck
/-! ### a table of the module: texts to numbers -/
/-! ### built-in calls -/
def blen : D → Res D
  | .lst xs => .ok (.int xs.length)
  | .tup xs => .ok (.int xs.length)
  | .str s => if s.length ≤ SZ then .ok (.int s.length) else .stuck
  | .dic kvs => .ok (.int kvs.length)
  | _ => .stuck
def bint : D → Res D
  | .int i => .ok (.int i)
  | .bl b => .ok (.int (b2i b))
  | _ => .stuck
def btuple : D → Res D
  | .lst xs => .ok (.tup xs)
  | .tup xs => .ok (.tup xs)
  | _ => .stuck
def blist : D → Res D
  | .lst xs => .ok (.lst xs)
  | .tup xs => .ok (.lst xs)
  | _ => .stuck
def intsOf : List D → Option (List Int)
  | [] => some []
  | .int i :: r => (intsOf r).map (i :: ·)
  | _ :: _ => none
def boolsOf : List D → Option (List Bool)
  | [] => some []
  | .bl i :: r => (boolsOf r).map (i :: ·)
  | _ :: _ => none
def bsum : D → Res D
  | .lst xs => match intsOf xs with | some is => .ok (.int is.sum) | none => .stuck
  | _ => .stuck
def ball : D → Res D
  | .lst xs => match boolsOf xs with | some bs => .ok (.bl (bs.all id)) | none => .stuck
  | _ => .stuck
def bmin2 : D → D → Res D
  | .int i, .int j => .ok (.int (if j < i then j else i))
  | _, _ => .stuck
def bbits : D → Res D
  | .int i => .ok (.int (Builtin.Int.intBits i : Nat))
  | _ => .stuck
/-! ### expressions -/
def var (i : Nat) : EM := fun e => match e[i]? with | some (some d) => .ok d | _ => .stuck
def cst (d : D) : EM := fun _ => .ok d
def un (f : D → Res D) (a : EM) : EM := fun e => a e >>= f
def bin (f : D → D → Res D) (a b : EM) : EM := fun e => a e >>= fun x => b e >>= fun y => f x y
def argN : AM := fun _ => .ok []
def argC (a : EM) (r : AM) : AM := fun e => a e >>= fun x => r e >>= fun xs => .ok (x :: xs)
def tupE (a : AM) : EM := fun e => a e >>= fun xs => chk xs.length (.tup xs)
def lstE (a : AM) : EM := fun e => a e >>= fun xs => chk xs.length (.lst xs)
/-- x and y, x or y as values, x a truth -/
def andE (a b : EM) : EM := fun e => a e >>= fun x => match x with | .bl true => b e | .bl false => .ok (.bl false) | _ => .stuck
def orE (a b : EM) : EM := fun e => a e >>= fun x => match x with | .bl false => b e | .bl true => .ok (.bl true) | _ => .stuck
/-- a < b < c -/
def chain (f g : D → D → Res D) (a b c : EM) : EM := fun e => a e >>= fun x => b e >>= fun y => f x y >>= fun z => match z with
  | .bl true => c e >>= fun u => g y u
  | .bl false => .ok (.bl false)
  | _ => .stuck
def tst (a : EM) : TM := fun e => a e >>= truthy
def andT (a b : TM) : TM := fun e => a e >>= fun x => if x then b e else .ok false
def orT (a b : TM) : TM := fun e => a e >>= fun x => if x then .ok true else b e
def notT (a : TM) : TM := fun e => a e >>= fun x => .ok (!x)
def ifE (t : TM) (a b : EM) : EM := fun e => t e >>= fun x => if x then a e else b e
def slc (a : EM) (lo hi : Option EM) : EM := fun e => a e >>= fun x => bnd lo e >>= fun i => bnd hi e >>= fun j => oslc x i j
where bnd : Option EM → Env → Res (Option Int)
  | none, _ => .ok none
  | some m, e => m e >>= fun d => match d with | .int i => .ok (some i) | _ => .stuck
def call (f : List D → Res D) (a : AM) : EM := fun e => a e >>= f
/-- o.m(..), o of class c -/
def callM (c m : String) (f : List D → Res D) (a : EM) (am : AM) : EM := fun e => a e >>= fun o => match o with
  | .ins c' fs => if c' = c ∧ (fs.lookup m).isNone = true then am e >>= fun ds => f (o :: ds) else .stuck
  | _ => .stuck
/-! what is walked -/
abbrev IM := Env → Res (List D)
def iseq (a : EM) : IM := fun e => a e >>= fun x => match x with | .lst xs => .ok xs | .tup xs => .ok xs | _ => .stuck
def B62 : Nat := 4611686018427387904
def rngL (lo hi : Int) : List D := (List.range (hi - lo).toNat).map fun i => .int (lo + (i : Nat))
def irng1 (a : EM) : IM := fun e => a e >>= fun x => match x with
  | .int n => if n.natAbs < B62 then .ok (rngL 0 n) else .stuck
  | _ => .stuck
def enumL (n : Nat) : List D → List D
  | [] => []
  | d :: r => .tup [.int n, d] :: enumL (n + 1) r
def ienum (a : EM) : IM := fun e => iseq a e >>= fun xs => .ok (enumL 0 xs)
/-! targets -/
def lift {α : Type} : Option α → Res α
  | some a => .ok a
  | none => .stuck
@[simp] theorem lift_some {α : Type} (a : α) : lift (some a) = .ok a := rfl
@[simp] theorem lift_none {α : Type} : lift (none : Option α) = .stuck := rfl
abbrev GM := D → Env → Option Env
def gnm (i : Nat) : GM := fun d e => some (e.set i (some d))
def gtupL : List GM → List D → Env → Option Env
  | [], [], e => some e
  | g :: gs, d :: ds, e => (g d e).bind (gtupL gs ds)
  | _, _, _ => none
def gtup (gs : List GM) : GM := fun d e => match d with | .tup xs => gtupL gs xs e | _ => none
/-! comprehensions -/
def wipe (e : Env) : List Nat → Env
  | [] => e
  | i :: r => (wipe e r).set i none
def compL (f : D → Res (Option D)) : List D → Res (List D)
  | [] => .ok []
  | x :: xs => f x >>= fun o => compL f xs >>= fun ys => .ok (match o with | some y => y :: ys | none => ys)
def yes : TM := fun _ => .ok true
def compF (vs : List Nat) (g : GM) (t : TM) (elt : EM) (e : Env) (x : D) : Res (Option D) :=
  lift (g x (wipe e vs)) >>= fun e1 => t e1 >>= fun b => if b then elt e1 >>= fun y => .ok (some y) else .ok none
def lcE (it : IM) (vs : List Nat) (g : GM) (t : TM) (elt : EM) : EM := fun e => it e >>= fun xs =>
  noexc (compL (compF vs g t elt e) xs) >>= fun ys => chk xs.length (.lst ys)
/-! ### statements -/
def seq (a b : SM) : SM := fun e => a e >>= fun f => match f with | .next e' => b e' | r => .ok r
def skip : SM := fun e => .ok (.next e)
def asg (g : GM) (m : EM) : SM := fun e => m e >>= fun d => lift (g d e) >>= fun e' => .ok (.next e')
def aug (i : Nat) (f : D → D → Res D) (m : EM) : SM := fun e => var i e >>= fun x => m e >>= fun y => f x y >>= fun z => .ok (.next (e.set i (some z)))
def drop (m : EM) : SM := fun e => m e >>= fun _ => .ok (.next e)
def ret (m : EM) : SM := fun e => m e >>= fun d => .ok (.ret d)
def retN : SM := fun _ => .ok (.ret .non)
def ite (t : TM) (a b : SM) : SM := fun e => t e >>= fun x => if x then a e else b e
def brk : SM := fun e => .ok (.brk e)
def cnt : SM := fun e => .ok (.cnt e)
def forL (body : D → Env → Res Fl) : List D → Env → Res Fl
  | [], e => .ok (.next e)
  | x :: xs, e => match body x e with
    | .ok (.next e') => forL body xs e'
    | .ok (.cnt e') => forL body xs e'
    | .ok (.brk e') => .ok (.next e')
    | .ok (.ret d) => .ok (.ret d)
    | .exc c fs => .exc c fs
    | .stuck => .stuck
def forB (g : GM) (body : SM) (x : D) (e : Env) : Res Fl := lift (g x e) >>= body
def for_ (it : IM) (g : GM) (body : SM) : SM := fun e => it e >>= fun xs => forL (forB g body) xs e
/-- a name's own list grows -/
def app (i : Nat) (m : EM) : SM := fun e => var i e >>= fun l => match l with
  | .lst xs => m e >>= fun d => if xs.length < SZ then .ok (.next (e.set i (some (.lst (xs ++ [d]))))) else .stuck
  | _ => .stuck
/-- xs[j] = v of a name's own list -/
def setL (i : Nat) (j m : EM) : SM := fun e => var i e >>= fun l => match l with
  | .lst xs => m e >>= fun d => j e >>= fun k => match k with
    | .int z => match ixN xs.length z with
      | some n => .ok (.next (e.set i (some (.lst (xs.set n d)))))
      | none => .stuck
    | _ => .stuck
  | _ => .stuck
def putF (f : String) (d : D) : List (String × D) → List (String × D)
  | [] => [(f, d)]
  | (g, x) :: r => if g = f then (f, d) :: r else (g, x) :: putF f d r
/-- self.f = v in an __init__ -/
def setF (i : Nat) (cs : List String) (f : String) (m : EM) : SM := fun e => var i e >>= fun o => match o with
  | .ins c fs => if cs.contains c ∧ fs.length < 1000 then m e >>= fun d => .ok (.next (e.set i (some (.ins c (putF f d fs))))) else .stuck
  | _ => .stuck
/-- raise C(..) -/
def rais (c : String) (ns : List String) (a : AM) : SM := fun e => a e >>= fun ds => if ds.length = ns.length then .exc c (ns.zip ds).reverse else .stuck
/-- code that is not reached -/
def dead : SM := fun _ => .stuck
def thru (m : SM) : SM := fun e => noexc (m e)
/-! ### errors that are caught -/
/-- try: b, except ..: what is done with the error's class and fields; i: the name's slot -/
def tryE (es : List String) (i : Nat) (b : SM) (h : String → List (String × D) → SM) : SM := fun e => match b e with
  | .exc c fs => if es.contains c && decide (i < e.length) then (match h c fs (e.set i none) with
      | .ok (.next e') => .ok (.next (e'.set i none))
      | .ok (.ret d) => .ok (.ret d)
      | _ => .stuck) else .stuck
  | r => r
def xisa (c : String) (ts : List String) : Bool := ts.any fun t => c == t || (t == "CarryError" || t == "ValueError")
/-- isinstance(e, (..)) of the caught error -/
def xis (es all : List String) (c : String) (ts : List String) : EM := fun _ => if es.contains c && ts.all all.contains then .ok (.bl (xisa c ts)) else .stuck
/-- e.f -/
def xfld (es fl : List String) (c f : String) (fs : List (String × D)) : EM := fun _ => if es.contains c && fl.contains f then opt (fs.lookup f) else .stuck
/-! ### defs -/
def done : Res Fl → Res D
  | .ok (.next _) => .ok .non
  | .ok (.ret d) => .ok d
  | .ok (.brk _) => .stuck
  | .ok (.cnt _) => .stuck
  | .exc c fs => .exc c fs
  | .stuck => .stuck
/-- a def of p parameters and n names -/
def fn (p n : Nat) (body : SM) (ds : List D) : Res D := if ds.length = p then done (body (ds.map some ++ List.replicate (n - p) none)) else .stuck
def made (p n : Nat) (cls : String) (body : SM) (ds : List D) : Res D := if ds.length + 1 = p then
  match body ((some (.ins cls []) :: ds.map some) ++ List.replicate (n - p) none) with
  | .ok (.next (some (.ins c fs) :: _)) => .ok (.ins c fs)
  | .exc c fs => .exc c fs
  | _ => .stuck else .stuck
end Py
/-! What plain data look like in the abstract heap, and the readings that say: this code computes that. -/
namespace Py
open PySem L2
abbrev Frag := PySem.W.Frag
/-- the class that a module's name stands for -/
def ca (K : Frag) (c : String) : Addr := He.ga K (Str.ofString c)
theorem ofS_inj {a b : String} (h : Str.ofString a = Str.ofString b) : a = b := by
  rw [Str.ofString_eq_toList, Str.ofString_eq_toList] at h
  have h1 : a.toList.map Char.toNat = b.toList.map Char.toNat := by
    have := congrArg (fun s : Str => s.cps.toList) h
    simpa using this
  have h2 : a.toList = b.toList := by
    have hc : ∀ x y : Char, x.toNat = y.toNat → x = y := fun x y e => by
      apply Char.ext
      apply UInt32.toNat_inj.mp
      exact e
    generalize a.toList = l at h1
    generalize b.toList = m at h1
    induction l generalizing m with
    | nil => cases m with
      | nil => rfl
      | cons _ _ => simp at h1
    | cons x l ih => cases m with
      | nil => simp at h1
      | cons y m =>
        simp only [List.map_cons, List.cons.injEq] at h1
        rw [hc _ _ h1.1, ih m h1.2]
  exact String.ext_iff.mpr h2
/-- an address set to be avoided -/
abbrev AS := Addr → Prop
mutual
def Rep (K : Frag) (A : AS) (H : Hp) : D → V → Prop
  | .non, v => v = .non
  | .bl b, v => v = .bl b
  | .int i, v => v = .int i
  | .str s, v => v = .str (Str.ofString s)
  | .tup xs, v => ∃ a vs, v = .ref a ∧ SqT K H a vs ∧ RepL K A H xs vs
  | .lst xs, v => ∃ a vs, v = .ref a ∧ ¬ A a ∧ Rd H a (.lst vs) ∧ RepL K A H xs vs
  | .dic _, _ => False
  | .ins c fs, v => ∃ a dx fvs, v = .ref a ∧ ¬ A a ∧ H a = some (.ins (ca K c) dx fvs) ∧ RepF K A H fs fvs
def RepL (K : Frag) (A : AS) (H : Hp) : List D → List V → Prop
  | [], vs => vs = []
  | d :: ds, vs => ∃ v r, vs = v :: r ∧ Rep K A H d v ∧ RepL K A H ds r
def RepF (K : Frag) (A : AS) (H : Hp) : List (String × D) → List (Str × V) → Prop
  | [], fs => fs = []
  | (n, d) :: r, fs => ∃ v q, fs = (Str.ofString n, v) :: q ∧ Rep K A H d v ∧ RepF K A H r q
end
/-- a tuple never changes -/
def still : HO → Prop
  | .tup _ => True
  | .frz _ (.tup _) => True
  | _ => False
/-- from H to H': what is not in A is kept, the new A' has of the old heap only A -/
structure Mv (A : AS) (H : Hp) (A' : AS) (H' : Hp) : Prop where
  av : ∀ a, A' a → A a ∨ H a = none
  kp : ∀ a o, H a = some o → (¬ A a ∨ still o) → H' a = some o
theorem Mv.same {A : AS} {H H' : Hp} (s : Same H H') : Mv A H A H' := ⟨fun _ h => .inl h, fun a o e _ => s a o e⟩
theorem Mv.less {A A' : AS} {H : Hp} (s : ∀ a, A' a → A a) : Mv A H A' H := ⟨fun a h => .inl (s a h), fun _ _ e _ => e⟩
theorem Mv.refl {A : AS} {H : Hp} : Mv A H A H := .same (Same.refl H)
theorem Mv.trans {A A1 A2 : AS} {H H1 H2 : Hp} (h : Mv A H A1 H1) (k : Mv A1 H1 A2 H2) : Mv A H A2 H2 := by
  refine ⟨fun a x => ?_, fun a o e q => ?_⟩
  · rcases k.av a x with y | y
    · exact h.av a y
    · cases e : H a with
      | none => exact .inr rfl
      | some o =>
        by_cases hA : A a
        · exact .inl hA
        · rw [h.kp a o e (.inl hA)] at y
          cases y
  · refine k.kp a o (h.kp a o e q) ?_
    rcases q with q | q
    · refine .inl fun y => ?_
      rcases h.av a y with z | z
      · exact q z
      · rw [e] at z
        cases z
    · exact .inr q
theorem Rd.move {A A' : AS} {H H' : Hp} {a : Addr} {u : HO} (m : Mv A H A' H') (h : Rd H a u) (n : ¬ A a) : Rd H' a u ∧ ¬ A' a := by
  have key : ∀ o, H a = some o → H' a = some o ∧ ¬ A' a := fun o e => ⟨m.kp a o e (.inl n), fun x => by
    rcases m.av a x with y | y
    · exact n y
    · rw [e] at y
      cases y⟩
  rcases h with h | ⟨o, h⟩
  · exact ⟨.inl (key _ h).1, (key _ h).2⟩
  · exact ⟨.inr ⟨o, (key _ h).1⟩, (key _ h).2⟩
theorem SqT.move {K : Frag} {A A' : AS} {H H' : Hp} {a : Addr} {vs : List V} (m : Mv A H A' H') (h : SqT K H a vs) : SqT K H' a vs := by
  rcases h with (h | ⟨o, h⟩) | h
  · exact .inl (.inl (m.kp a _ h (.inr trivial)))
  · exact .inl (.inr ⟨o, m.kp a _ h (.inr trivial)⟩)
  · exact .inr h
mutual
theorem Rep.move {K : Frag} {A A' : AS} {H H' : Hp} (m : Mv A H A' H') : ∀ (d : D) (v : V), Rep K A H d v → Rep K A' H' d v
  | .non, _, h => h
  | .bl _, _, h => h
  | .int _, _, h => h
  | .str _, _, h => h
  | .tup xs, v, h => by
    simp only [Rep] at h ⊢
    obtain ⟨a, vs, e, q, r⟩ := h
    exact ⟨a, vs, e, SqT.move m q, RepL.move m xs vs r⟩
  | .lst xs, v, h => by
    simp only [Rep] at h ⊢
    obtain ⟨a, vs, e, n, q, r⟩ := h
    exact ⟨a, vs, e, (Rd.move m q n).2, (Rd.move m q n).1, RepL.move m xs vs r⟩
  | .dic _, _, h => by
    simp only [Rep] at h
  | .ins c fs, v, h => by
    simp only [Rep] at h ⊢
    obtain ⟨a, dx, fvs, e, n, q, r⟩ := h
    have z : Rd H' a _ ∧ ¬ A' a := Rd.move m (.inl q) n
    refine ⟨a, dx, fvs, e, z.2, ?_, RepF.move m fs fvs r⟩
    exact m.kp a _ q (.inl n)
theorem RepL.move {K : Frag} {A A' : AS} {H H' : Hp} (m : Mv A H A' H') : ∀ (ds : List D) (vs : List V), RepL K A H ds vs → RepL K A' H' ds vs
  | [], vs, h => by
    simp only [RepL] at h ⊢
    exact h
  | d :: ds, vs, h => by
    simp only [RepL] at h ⊢
    obtain ⟨v, r, e, h1, h2⟩ := h
    exact ⟨v, r, e, Rep.move m d v h1, RepL.move m ds r h2⟩
theorem RepF.move {K : Frag} {A A' : AS} {H H' : Hp} (m : Mv A H A' H') : ∀ (ds : List (String × D)) (vs : List (Str × V)), RepF K A H ds vs → RepF K A' H' ds vs
  | [], vs, h => by
    simp only [RepF] at h ⊢
    exact h
  | (n, d) :: ds, vs, h => by
    simp only [RepF] at h ⊢
    obtain ⟨v, r, e, h1, h2⟩ := h
    exact ⟨v, r, e, Rep.move m d v h1, RepF.move m ds r h2⟩
end
theorem RepL.length {K : Frag} {A : AS} {H : Hp} : ∀ {ds : List D} {vs : List V}, RepL K A H ds vs → ds.length = vs.length
  | [], vs, h => by
    simp only [RepL] at h
    subst h
    rfl
  | d :: ds, vs, h => by
    simp only [RepL] at h
    obtain ⟨v, r, rfl, h1, h2⟩ := h
    simp [RepL.length h2]
theorem RepL.get {K : Frag} {A : AS} {H : Hp} : ∀ {ds : List D} {vs : List V} {i : Nat} {d : D}, RepL K A H ds vs → ds[i]? = some d → ∃ v, vs[i]? = some v ∧ Rep K A H d v
  | [], vs, i, d, h, e => by simp at e
  | d0 :: ds, vs, i, d, h, e => by
    simp only [RepL] at h
    obtain ⟨v, r, rfl, h1, h2⟩ := h
    cases i with
    | zero =>
      simp at e
      subst e
      exact ⟨v, rfl, h1⟩
    | succ i =>
      obtain ⟨w, q1, q2⟩ := RepL.get (i := i) h2 (by simpa using e)
      exact ⟨w, by simpa using q1, q2⟩
theorem RepL.append {K : Frag} {A : AS} {H : Hp} : ∀ {ds es : List D} {vs ws : List V}, RepL K A H ds vs → RepL K A H es ws → RepL K A H (ds ++ es) (vs ++ ws)
  | [], es, vs, ws, h, k => by
    simp only [RepL] at h
    subst h
    exact k
  | d :: ds, es, vs, ws, h, k => by
    simp only [RepL] at h
    obtain ⟨v, r, rfl, h1, h2⟩ := h
    simp only [List.cons_append, RepL]
    exact ⟨v, r ++ ws, rfl, h1, RepL.append h2 k⟩
theorem RepL.drop {K : Frag} {A : AS} {H : Hp} : ∀ {ds : List D} {vs : List V} (n : Nat), RepL K A H ds vs → RepL K A H (ds.drop n) (vs.drop n)
  | ds, vs, 0, h => h
  | [], vs, n + 1, h => by
    simp only [RepL] at h
    subst h
    simp [RepL]
  | d :: ds, vs, n + 1, h => by
    simp only [RepL] at h
    obtain ⟨v, r, rfl, h1, h2⟩ := h
    exact RepL.drop n h2
theorem RepL.take {K : Frag} {A : AS} {H : Hp} : ∀ {ds : List D} {vs : List V} (n : Nat), RepL K A H ds vs → RepL K A H (ds.take n) (vs.take n)
  | ds, vs, 0, h => by simp [RepL]
  | [], vs, n + 1, h => by
    simp only [RepL] at h
    subst h
    simp [RepL]
  | d :: ds, vs, n + 1, h => by
    simp only [RepL] at h
    obtain ⟨v, r, rfl, h1, h2⟩ := h
    simp only [List.take_succ_cons, RepL]
    exact ⟨v, _, rfl, h1, RepL.take n h2⟩
theorem RepL.set {K : Frag} {A : AS} {H : Hp} {d : D} {v : V} (hd : Rep K A H d v) : ∀ {ds : List D} {vs : List V} (n : Nat), RepL K A H ds vs → RepL K A H (ds.set n d) (vs.set n v)
  | [], vs, n, h => by
    simp only [RepL] at h
    subst h
    simp [RepL]
  | d0 :: ds, vs, 0, h => by
    simp only [RepL] at h
    obtain ⟨w, r, rfl, h1, h2⟩ := h
    simp only [List.set_cons_zero, RepL]
    exact ⟨v, r, rfl, hd, h2⟩
  | d0 :: ds, vs, n + 1, h => by
    simp only [RepL] at h
    obtain ⟨w, r, rfl, h1, h2⟩ := h
    simp only [List.set_cons_succ, RepL]
    exact ⟨w, _, rfl, h1, RepL.set hd n h2⟩
theorem RepL.one {K : Frag} {A : AS} {H : Hp} {d : D} {v : V} (h : Rep K A H d v) : RepL K A H [d] [v] := by
  simp only [RepL]
  exact ⟨v, [], rfl, h, rfl⟩
theorem RepF.look {K : Frag} {A : AS} {H : Hp} {f : String} : ∀ {fs : List (String × D)} {vs : List (Str × V)}, RepF K A H fs vs →
    match fs.lookup f with | some d => ∃ v, vs.lookup (Str.ofString f) = some v ∧ Rep K A H d v | none => vs.lookup (Str.ofString f) = none
  | [], vs, h => by
    simp only [RepF] at h
    subst h
    rfl
  | (n, d) :: fs, vs, h => by
    simp only [RepF] at h
    obtain ⟨v, r, rfl, h1, h2⟩ := h
    by_cases e : f = n
    · subst e
      simp only [List.lookup_cons, beq_self_eq_true]
      exact ⟨v, rfl, h1⟩
    · have e2 : (Str.ofString f == Str.ofString n) = false := beq_eq_false_iff_ne.mpr fun q => e (ofS_inj q)
      have e3 : (f == n) = false := beq_eq_false_iff_ne.mpr e
      simp only [List.lookup_cons, e2, e3]
      exact RepF.look h2
theorem RepF.put {K : Frag} {A : AS} {H : Hp} {f : String} {d : D} {v : V} (hd : Rep K A H d v) : ∀ {fs : List (String × D)} {vs : List (Str × V)}, RepF K A H fs vs → RepF K A H (putF f d fs) (L2.putF (Str.ofString f) v vs)
  | [], vs, h => by
    simp only [RepF] at h
    subst h
    simp only [putF, L2.putF, RepF]
    exact ⟨v, [], rfl, hd, rfl⟩
  | (n, d0) :: fs, vs, h => by
    simp only [RepF] at h
    obtain ⟨w, r, rfl, h1, h2⟩ := h
    by_cases e : n = f
    · subst e
      simp only [putF, L2.putF, if_pos, RepF]
      exact ⟨v, r, rfl, hd, h2⟩
    · have e2 : ¬ Str.ofString n = Str.ofString f := fun q => e (ofS_inj q)
      simp only [putF, L2.putF, if_neg e, if_neg e2, RepF]
      exact ⟨w, _, rfl, h1, RepF.put hd h2⟩
theorem RepF.length {K : Frag} {A : AS} {H : Hp} : ∀ {fs : List (String × D)} {vs : List (Str × V)}, RepF K A H fs vs → fs.length = vs.length
  | [], vs, h => by
    simp only [RepF] at h
    subst h
    rfl
  | (n, d) :: fs, vs, h => by
    simp only [RepF] at h
    obtain ⟨v, r, rfl, h1, h2⟩ := h
    simp [RepF.length h2]
/-! ### the frame -/
/-- what a name's own object at a holds -/
def OwnAt (K : Frag) (A : AS) (H : Hp) (a : Addr) : D → Prop
  | .lst ds => ∃ vs, H a = some (.lst vs) ∧ RepL K A H ds vs
  | .ins c fs => ∃ dx fvs, H a = some (.ins (ca K c) dx fvs) ∧ RepF K A H fs fvs
  | _ => False
theorem OwnAt.move {K : Frag} {A A' : AS} {H H' : Hp} {a : Addr} {d : D} (m : Mv A H A' H') (k : H' a = H a) (h : OwnAt K A H a d) : OwnAt K A' H' a d := by
  cases d with
  | lst ds =>
    obtain ⟨vs, e, r⟩ := h
    exact ⟨vs, k.trans e, RepL.move m _ _ r⟩
  | ins c fs =>
    obtain ⟨dx, fvs, e, r⟩ := h
    exact ⟨dx, fvs, k.trans e, RepF.move m _ _ r⟩
  | _ => exact h
abbrev OW := Nat → Option Addr
def AO (A : AS) (O : OW) : AS := fun a => A a ∨ ∃ i, O i = some a
/-- the heap at the entry; the object that slot 0 owns throughout (an __init__'s self) -/
structure Base where
  hp : Hp
  px : Option Addr
/-- what is known of a caught error: the slot of its name, where it stands, where its dict stands, what that holds -/
structure Xh where
  i : Nat
  a : Addr
  da : Addr
  fs : List (String × D)
/-- which names own; in an except suite: the caught error -/
structure Ow where
  f : Nat → Bool
  x : Option Xh
instance : CoeFun Ow (fun _ => Nat → Bool) := ⟨Ow.f⟩
@[reducible] def Ow.off (o : Ow) : Ow := ⟨fun i => match o.x with | some q => i == q.i | none => false, o.x⟩
structure XAt (K : Frag) (A : AS) (H : Hp) (σ : L2.St) (e : Env) (f : Nat → Bool) (q : Xh) : Prop where
  own : f q.i = true
  slot : σ[q.i]? = some (some (.ref q.a))
  no : ∀ d, e[q.i]? ≠ some (some d)
  xd : ∃ fvs, H q.da = some (.xd fvs) ∧ RepF K A H q.fs fvs
def XFact (K : Frag) (A : AS) (H : Hp) (σ : L2.St) (e : Env) (o : Ow) : Prop := ∀ q, o.x = some q → XAt K A H σ e o.f q
theorem XFact.none {K : Frag} {A : AS} {H : Hp} {σ : L2.St} {e : Env} {o : Ow} (h : o.x = none) : XFact K A H σ e o := fun q z => by
  rw [h] at z
  cases z
theorem XFact.move {K : Frag} {A A' : AS} {H H' : Hp} {σ σ' : L2.St} {e e' : Env} {o : Ow} (m : Mv A H A' H') (k : ∀ da fvs, H da = some (.xd fvs) → H' da = some (.xd fvs)) (s : ∀ i, o i = true → (∀ d, e[i]? ≠ some (some d)) → σ'[i]? = σ[i]? ∧ ∀ d, e'[i]? ≠ some (some d))
    (h : XFact K A H σ e o) : XFact K A' H' σ' e' o := fun q hq => by
  obtain ⟨h1, h2, h3, fvs, h4, h5⟩ := h q hq
  obtain ⟨s1, s2⟩ := s q.i h1 h3
  exact ⟨h1, s1.trans h2, s2, fvs, k _ _ h4, RepF.move m _ _ h5⟩
theorem XFact.heap {K : Frag} {A A' : AS} {H H' : Hp} {σ : L2.St} {e : Env} {o : Ow} (m : Mv A H A' H') (k : ∀ da fvs, H da = some (.xd fvs) → H' da = some (.xd fvs)) (h : XFact K A H σ e o) : XFact K A' H' σ e o := h.move m k fun i _ n => ⟨rfl, n⟩
/-- the frame's slots hold these data; ow: the names that own what they hold; H0: the heap at the entry -/
structure ER (K : Frag) (A : AS) (H0 : Base) (ow : Ow) (O : OW) (σ : L2.St) (H : Hp) (e : Env) : Prop where
  len : σ.length = e.length
  a0 : ∀ a, A a → H a ≠ none
  same : Same H0.hp H
  vals : ∀ i d, e[i]? = some (some d) → ow i = false → ∃ v, σ[i]? = some (some v) ∧ Rep K (AO A O) H d v
  owns : ∀ i d, e[i]? = some (some d) → ow i = true → ∃ a, O i = some a ∧ σ[i]? = some (some (.ref a)) ∧ OwnAt K (AO A O) H a d
  fresh : ∀ i a, O i = some a → H0.hp a = none ∧ H a ≠ none ∧ ¬ A a
  inj : ∀ i j a, O i = some a → O j = some a → i = j
  pin : ∀ a, H0.px = some a → O 0 = some a
  exq : XFact K (AO A O) H σ e ow
section
variable {K : Frag} {A : AS} {H0 : Base} {ow : Ow} {O : OW} {σ : L2.St} {H H' : Hp} {e : Env}
theorem ne_none {H H' : Hp} {a : Addr} (s : Same H H') (h : H a ≠ none) : H' a ≠ none := by
  cases q : H a with
  | none => exact absurd q h
  | some o =>
    rw [s a o q]
    exact fun z => nomatch z
theorem ER.there (R : ER K A H0 ow O σ H e) : ∀ a, AO A O a → H a ≠ none := fun a h => by
  rcases h with h | ⟨i, h⟩
  · exact R.a0 a h
  · exact (R.fresh i a h).2.1
theorem ER.to (R : ER K A H0 ow O σ H e) (s : Same H H') : ER K A H0 ow O σ H' e :=
  ⟨R.len, fun a h => ne_none s (R.a0 a h), R.same.trans s, fun i d h1 h2 => let ⟨v, q, r⟩ := R.vals i d h1 h2; ⟨v, q, Rep.move (Mv.same s) d v r⟩,
    fun i d h1 h2 => let ⟨a, q, q2, r⟩ := R.owns i d h1 h2; ⟨a, q, q2, r.move (Mv.same s) (by
      cases z : H a with
      | none => exact absurd z (R.fresh i a q).2.1
      | some o => exact s a o z)⟩,
    fun i a h => ⟨(R.fresh i a h).1, ne_none s (R.fresh i a h).2.1, (R.fresh i a h).2.2⟩, R.inj, R.pin, R.exq.heap (Mv.same s) fun da fvs e => s _ _ e⟩
/-- a name takes a value -/
theorem ER.set (R : ER K A H0 ow O σ H e) {i : Nat} {d : D} {v : V} (hi : ow i = false) (r : Rep K (AO A O) H d v) : ER K A H0 ow O (σ.set i (some v)) H (e.set i (some d)) := by
  refine ⟨by simp [R.len], R.a0, R.same, fun j d' h1 h2 => ?_, fun j d' h1 h2 => ?_, R.fresh, R.inj, R.pin, R.exq.move Mv.refl (fun _ _ e => e) fun j hj n => ?_⟩
  rotate_right
  · have hne : i ≠ j := fun z => by
      rw [z, hj] at hi
      cases hi
    rw [List.getElem?_set_ne hne, List.getElem?_set_ne hne]
    exact ⟨rfl, n⟩
  · by_cases hj : i = j
    · subst hj
      have hl : i < e.length := by
        have := (List.getElem?_eq_some_iff.mp h1).1
        simpa using this
      rw [List.getElem?_set_self hl] at h1
      cases h1
      exact ⟨v, List.getElem?_set_self (by rw [R.len]; exact hl), r⟩
    · rw [List.getElem?_set_ne hj] at h1
      rw [List.getElem?_set_ne hj]
      exact R.vals j d' h1 h2
  · have hj : i ≠ j := fun z => by
      subst z
      rw [hi] at h2
      cases h2
    rw [List.getElem?_set_ne hj] at h1
    rw [List.getElem?_set_ne hj]
    exact R.owns j d' h1 h2
/-- names forgotten -/
theorem ER.sub {e' : Env} {σ' : L2.St} (R : ER K A H0 ow O σ H e) (hl : σ'.length = e'.length) (h : ∀ (i : Nat) (d : D), e'[i]? = some (some d) → e[i]? = some (some d) ∧ σ'[i]? = σ[i]?) (hx : ∀ q : Xh, ow.x = some q → σ'[q.i]? = σ[q.i]?) : ER K A H0 ow O σ' H e' :=
  ⟨hl, R.a0, R.same, fun i d h1 h2 => by rw [(h i d h1).2]; exact R.vals i d (h i d h1).1 h2, fun i d h1 h2 => by rw [(h i d h1).2]; exact R.owns i d (h i d h1).1 h2, R.fresh, R.inj, R.pin, fun q hq => by
    obtain ⟨h1, h2, h3, h4⟩ := R.exq q hq
    exact ⟨h1, (hx q hq).trans h2, fun d z => h3 d (h _ d z).1, h4⟩⟩
end
theorem wipe_env (vs : List Nat) (e : Env) (i : Nat) (d : D) (h : (wipe e vs)[i]? = some (some d)) : e[i]? = some (some d) ∧ i ∉ vs := by
  induction vs with
  | nil => exact ⟨h, by simp⟩
  | cons j r ih =>
    unfold wipe at h
    by_cases hj : j = i
    · subst hj
      by_cases hl : j < (wipe e r).length
      · rw [List.getElem?_set_self hl] at h
        cases h
      · rw [List.getElem?_eq_none (by simp; omega)] at h
        cases h
    · rw [List.getElem?_set_ne hj] at h
      obtain ⟨a, b⟩ := ih h
      exact ⟨a, by simp [b, Ne.symm hj]⟩
theorem wipe_len (vs : List Nat) (e : Env) : (wipe e vs).length = e.length := by
  induction vs with
  | nil => rfl
  | cons j r ih => unfold wipe; simp [ih]
theorem ER.wipe {K : Frag} {A : AS} {H0 : Base} {ow : Ow} {O : OW} {σ : L2.St} {H : Hp} {e : Env} (R : ER K A H0 ow O σ H e) (vs : List Nat) (hx : ow.x = none) : ER K A H0 ow O (L2.wipe σ vs) H (Py.wipe e vs) :=
  R.sub (by rw [L2.wipe_length, wipe_len, R.len]) (fun i d h => ⟨(wipe_env vs e i d h).1, L2.wipe_out (wipe_env vs e i d h).2⟩) fun q hq => by
    rw [hx] at hq
    cases hq
/-! ### readings -/
def Out {α : Type} (r : Res α) (good : α → Prop) (bad : String → List (String × D) → Prop) : Prop := match r with
  | .ok a => good a
  | .exc c fs => bad c fs
  | .stuck => False
theorem Out.bind {α β : Type} {r : Res α} {f : α → Res β} {good : β → Prop} {bad : String → List (String × D) → Prop} (h : Out (r >>= f) good bad) : Out r (fun a => Out (f a) good bad) bad := by
  cases r with
  | ok a => exact h
  | exc c fs => exact h
  | stuck => exact h
theorem Out.imp {α : Type} {r : Res α} {good good' : α → Prop} {bad bad' : String → List (String × D) → Prop} (h : Out r good bad) (hg : ∀ a, r = .ok a → good a → good' a) (hb : ∀ c fs, bad c fs → bad' c fs) : Out r good' bad' := by
  cases r with
  | ok a => exact hg a rfl h
  | exc c fs => exact hb c fs h
  | stuck => exact h
theorem Out.good {α : Type} {r : Res α} {good good' : α → Prop} {bad : String → List (String × D) → Prop} (h : Out r good bad) (hg : ∀ a, good a → good' a) : Out r good' bad := h.imp (fun a _ => hg a) fun _ _ x => x
/-- what an exception must show that leaves an expression -/
def badE (K : Frag) (W : WX) (A : AS) (O : OW) (σ : L2.St) (H : Hp) (c : String) (fs : List (String × D)) : Prop :=
  ∀ da H' fvs, Same H H' → H' da = some (.xd fvs) → RepF K (AO A O) H' fs fvs → W (.ref (ca K c)) (some da) σ H'
theorem badE.to {K : Frag} {W : WX} {A : AS} {O : OW} {σ : L2.St} {H H1 : Hp} (s : Same H H1) {c : String} {fs : List (String × D)} (h : badE K W A O σ H c fs) : badE K W A O σ H1 c fs := fun da H' fvs s' => h da H' fvs (s.trans s')
theorem Out.to {K : Frag} {W : WX} {A : AS} {O : OW} {σ : L2.St} {H H1 : Hp} {α : Type} {r : Res α} {good : α → Prop} (s : Same H H1) (h : Out r good (badE K W A O σ H)) : Out r good (badE K W A O σ H1) := h.imp (fun _ _ x => x) fun _ _ x => x.to s
/-- a value that may be a name's own list or object: what is within it is clean -/
def RepW (K : Frag) (A : AS) (H : Hp) : D → V → Prop
  | .lst xs, v => ∃ a vs, v = .ref a ∧ Rd H a (.lst vs) ∧ RepL K A H xs vs
  | .ins c fs, v => ∃ a dx fvs, v = .ref a ∧ H a = some (.ins (ca K c) dx fvs) ∧ RepF K A H fs fvs
  | d, v => Rep K A H d v
theorem RepW.of {K : Frag} {A : AS} {H : Hp} {d : D} {v : V} (h : Rep K A H d v) : RepW K A H d v := by
  cases d with
  | lst xs =>
    simp only [Rep] at h
    obtain ⟨a, vs, e, _, q, r⟩ := h
    exact ⟨a, vs, e, q, r⟩
  | ins c fs =>
    simp only [Rep] at h
    obtain ⟨a, dx, fvs, e, _, q, r⟩ := h
    exact ⟨a, dx, fvs, e, q, r⟩
  | _ => exact h
theorem RepW.none {K : Frag} {A : AS} {H : Hp} {d : D} {v : V} (h : RepW K A H d v) : Rep K (fun _ => False) H d v := by
  have z : Mv A H (fun _ => False) H := Mv.less fun _ x => x.elim
  cases d with
  | lst xs =>
    obtain ⟨a, vs, e, q, r⟩ := h
    simp only [Rep]
    exact ⟨a, vs, e, fun x => x, q, RepL.move z _ _ r⟩
  | ins c fs =>
    obtain ⟨a, dx, fvs, e, q, r⟩ := h
    simp only [Rep]
    exact ⟨a, dx, fvs, e, fun x => x, q, RepF.move z _ _ r⟩
  | _ => exact Rep.move z _ _ h
/-- a relation between data and values, under what is to be avoided -/
abbrev RR := AS → Hp → D → V → Prop
/-- an expression that computes m -/
def tG (R : RR) (K : Frag) (W : WX) (ow : Ow) (m : EM) : TE := fun σ H Q => ∃ A H0 O e, ER K A H0 ow O σ H e ∧
  Out (m e) (fun d => ∀ v H', Same H H' → R (AO A O) H' d v → Q v H') (badE K W A O σ H)
/-- .. clean -/
abbrev tE (K : Frag) (W : WX) (ow : Ow) (m : EM) : TE := tG (Rep K) K W ow m
/-- .. to be read only -/
abbrev tW (K : Frag) (W : WX) (ow : Ow) (m : EM) : TE := tG (RepW K) K W ow m
/-- .. a new list -/
def tF (K : Frag) (W : WX) (ow : Ow) (m : EM) : TE := fun σ H Q => ∃ A H0 O e, ER K A H0 ow O σ H e ∧
  Out (m e) (fun d => ∀ a H', H a = none → Same H H' → OwnAt K (fun b => AO A O b ∨ b = a) H' a d → Q (.ref a) H') (badE K W A O σ H)
def tT (K : Frag) (W : WX) (ow : Ow) (m : TM) : TT := fun σ H Q => ∃ A H0 O e, ER K A H0 ow O σ H e ∧
  Out (m e) (fun b => ∀ H', Same H H' → Q b H') (badE K W A O σ H)
def tA (R : RR) (K : Frag) (W : WX) (ow : Ow) (m : AM) : TA := fun σ H Q => ∃ A H0 O e, ER K A H0 ow O σ H e ∧
  Out (m e) (fun ds => ∀ vs H', Same H H' → Paired (fun v d => R (AO A O) H' d v) vs ds → Q vs H') (badE K W A O σ H)
section
variable {X : Cx} {K : Frag} {W : WX} {A : AS} {H0 : Base} {ow : Ow}
theorem PE.of {e : Expr} {t t' : TE} (h : PE X e t) (k : ∀ σ H Q, t' σ H Q → t σ H Q) : PE X e t' := ⟨fun pins s σ H Q I q => h.run pins s σ H Q I (k σ H Q q)⟩
theorem PT.of {e : Expr} {t t' : TT} (h : PT X e t) (k : ∀ σ H Q, t' σ H Q → t σ H Q) : PT X e t' := ⟨fun pins s σ H Q I q => h.run pins s σ H Q I (k σ H Q q)⟩
theorem PW.of {e : Expr} {t t' : TT} (h : PW X e t) (k : ∀ σ H Q, t' σ H Q → t σ H Q) : PW X e t' := ⟨fun wh pins s σ H Q I q => h.run wh pins s σ H Q I (k σ H Q q)⟩
theorem PA.of {e : List Expr} {t t' : TA} (h : PA X e t) (k : ∀ σ H Q, t' σ H Q → t σ H Q) : PA X e t' := ⟨fun pos pins s σ H Q I q => h.run pos pins s σ H Q I (k σ H Q q)⟩
theorem PS.of {e : Stmt} {t t' : TS} (h : PS X e t) (k : ∀ D σ H, t' D σ H → t D σ H) : PS X e t' := ⟨fun pins s σ H D I q => h.run pins s σ H D I (k D σ H q)⟩
theorem PSs.of {e : List Stmt} {t t' : TS} (h : PSs X e t) (k : ∀ D σ H, t' D σ H → t D σ H) : PSs X e t' := ⟨fun pins s σ H D I q => h.run pins s σ H D I (k D σ H q)⟩
theorem w_of {e : Expr} {m : EM} (h : PE X e (tE K W ow m)) : PE X e (tW K W ow m) := PE.of h fun σ H Q ⟨A, H0, O, en, R, q⟩ => ⟨A, H0, O, en, R, q.good fun d k v H' s r => k v H' s (RepW.of r)⟩
theorem e_of {e : Expr} {m : EM} (h : PE X e (tF K W ow m)) : PE X e (tE K W ow m) := PE.of h fun σ H Q ⟨A, H0, O, en, R, q⟩ => ⟨A, H0, O, en, R, q.good fun d k a H' n s r => by
  refine k (.ref a) H' s ?_
  have na : ¬ AO A O a := fun z => R.there a z n
  have mv : Mv (fun b => AO A O b ∨ b = a) H' (AO A O) H' := Mv.less fun b x => .inl x
  cases d with
  | lst ds =>
    obtain ⟨vs, e1, r1⟩ := r
    simp only [Rep]
    exact ⟨a, vs, rfl, na, .inl e1, RepL.move mv _ _ r1⟩
  | ins c fs =>
    obtain ⟨dx, fvs, e1, r1⟩ := r
    simp only [Rep]
    exact ⟨a, dx, fvs, rfl, na, e1, RepF.move mv _ _ r1⟩
  | _ => exact r.elim⟩
/-! names, constants -/
theorem x_var {i : Nat} {e : Expr} (h : PE X e (tVar i)) (hi : ow i = false) : PE X e (tE K W ow (var i)) := PE.of h fun σ H Q ⟨A, H0, O, en, R, q⟩ => by
  unfold var at q
  split at q
  · rename_i d hd
    obtain ⟨v, e1, r⟩ := R.vals i d hd hi
    exact ⟨v, e1, q v H (Same.refl H) r⟩
  · exact q.elim
/-- a name's own list, read -/
theorem x_own {i : Nat} {e : Expr} (h : PE X e (tVar i)) : PE X e (tW K W ow (var i)) := PE.of h fun σ H Q ⟨A, H0, O, en, R, q⟩ => by
  unfold var at q
  split at q
  · rename_i d hd
    cases hi : ow i with
    | false =>
      obtain ⟨v, e1, r⟩ := R.vals i d hd hi
      exact ⟨v, e1, q v H (Same.refl H) (RepW.of r)⟩
    | true =>
      obtain ⟨a, _, e1, r⟩ := R.owns i d hd hi
      refine ⟨.ref a, e1, q _ H (Same.refl H) ?_⟩
      cases d with
      | lst ds =>
        obtain ⟨vs, e2, r⟩ := r
        exact ⟨a, vs, rfl, .inl e2, r⟩
      | ins c fs =>
        obtain ⟨dx, fvs, e2, r⟩ := r
        exact ⟨a, dx, fvs, rfl, e2, r⟩
      | _ => exact r.elim
  · exact q.elim
/-- data that need no object -/
def flat : D → Option V
  | .non => some .non
  | .bl b => some (.bl b)
  | .int i => some (.int i)
  | .str s => some (.str (Str.ofString s))
  | _ => none
theorem flat_rep {d : D} {v : V} (h : flat d = some v) (A : AS) (H : Hp) : Rep K A H d v := by
  cases d <;> simp only [flat, Option.some.injEq] at h <;> first | exact h.symm | cases h
theorem x_cst {e : Expr} {d : D} {v : V} (h : PE X e (tC v)) (hf : flat d = some v) : PE X e (tE K W ow (cst d)) := PE.of h fun σ H Q ⟨A, H0, O, en, R, q⟩ => q v H (Same.refl H) (flat_rep hf _ _)
theorem x_int {i j pos} : PE X (.Constant (.int i) j pos) (tE K W ow (cst (.int i))) := x_cst pe_int rfl
theorem x_bl {i j pos} : PE X (.Constant (.bool i) j pos) (tE K W ow (cst (.bl i))) := x_cst pe_bl rfl
theorem x_non {j pos} : PE X (.Constant .none j pos) (tE K W ow (cst .non)) := x_cst pe_non rfl
theorem x_str {s : String} {j pos} : PE X (.Constant (.str (Str.ofString s)) j pos) (tE K W ow (cst (.str s))) := x_cst pe_str rfl
end
end Py
/-! Operators. -/
namespace Py
open PySem L2
/-! ### data of the library -/
mutual
def toPy : D → PyData
  | .non => .none
  | .bl b => .bool b
  | .int i => .int i
  | .str s => .str (Str.ofString s)
  | .tup xs => .tuple (toPyL xs)
  | .lst xs => .list (toPyL xs)
  | .dic _ => .none
  | .ins _ _ => .none
def toPyL : List D → List PyData
  | [] => []
  | d :: r => toPy d :: toPyL r
end
theorem str_len (s : String) : (Str.ofString s).length = s.length := by
  rw [Str.ofString_eq_toList]
  simp [Str.length, String.length_toList]
theorem str_ok (s : String) : PySem.PyData.strOk (Str.ofString s) = true := by
  rw [Str.ofString_eq_toList]
  simp only [PySem.PyData.strOk, List.size_toArray, List.all_toArray', List.all_map]
  refine List.all_eq_true.mpr fun c _ => ?_
  simp only [Function.comp, decide_eq_true_eq]
  rcases c.valid with h | h
  · have h2 : c.toNat < 55296 := h
    omega
  · have h2 : c.toNat < 1114112 := h.2
    omega
mutual
theorem dp_of {K : Frag} {H : Hp} : ∀ (n : Nat) (d : D) (v : V), pl n d = true → Rep K (fun _ => False) H d v → Dp K H v (toPy d) ∧ (toPy d).canLay0 = true ∧ (toPy d).depth ≤ n
  | n, .non, v, _, h => by
    simp only [Rep] at h
    subst h
    exact ⟨.non, by simp [toPy, PyData.canLay0], by simp [toPy, PyData.depth]⟩
  | n, .bl b, v, _, h => by
    simp only [Rep] at h
    subst h
    exact ⟨.bl b, by simp [toPy, PyData.canLay0], by simp [toPy, PyData.depth]⟩
  | n, .int b, v, _, h => by
    simp only [Rep] at h
    subst h
    exact ⟨.int b, by simp [toPy, PyData.canLay0], by simp [toPy, PyData.depth]⟩
  | n, .str b, v, _, h => by
    simp only [Rep] at h
    subst h
    exact ⟨.str _, by simp [toPy, PyData.canLay0, str_ok], by simp [toPy, PyData.depth]⟩
  | n + 1, .tup xs, v, p, h => by
    simp only [Rep] at h
    obtain ⟨a, vs, rfl, q, r⟩ := h
    simp only [pl] at p
    obtain ⟨h1, h2, h3⟩ := dp_ofL n xs vs p r
    refine ⟨?_, by simpa [toPy, PyData.canLay0] using h2, by simp only [toPy, PyData.depth]; omega⟩
    simp only [toPy]
    exact .tup q h1
  | n + 1, .lst xs, v, p, h => by
    simp only [Rep] at h
    obtain ⟨a, vs, rfl, _, q, r⟩ := h
    simp only [pl] at p
    obtain ⟨h1, h2, h3⟩ := dp_ofL n xs vs p r
    refine ⟨?_, by simpa [toPy, PyData.canLay0] using h2, by simp only [toPy, PyData.depth]; omega⟩
    simp only [toPy]
    exact .lst (.inl q) h1
  | 0, .tup xs, v, p, h => by simp [pl] at p
  | 0, .lst xs, v, p, h => by simp [pl] at p
  | n, .dic _, v, p, h => by cases n <;> simp [pl] at p
  | n, .ins _ _, v, p, h => by cases n <;> simp [pl] at p
theorem dp_ofL {K : Frag} {H : Hp} : ∀ (n : Nat) (ds : List D) (vs : List V), ds.all (pl n) = true → RepL K (fun _ => False) H ds vs → DpAll K H vs (toPyL ds) ∧ PyData.canLayAll0 (toPyL ds) = true ∧ PyData.depthAll (toPyL ds) ≤ n
  | n, [], vs, _, h => by
    simp only [RepL] at h
    subst h
    exact ⟨.nil, by simp [toPyL, PyData.canLayAll0], by simp [toPyL, PyData.depthAll]⟩
  | n, d :: ds, vs, p, h => by
    simp only [RepL] at h
    obtain ⟨v, r, rfl, h1, h2⟩ := h
    simp only [List.all_cons, Bool.and_eq_true] at p
    obtain ⟨a1, a2, a3⟩ := dp_of n d v p.1 h1
    obtain ⟨b1, b2, b3⟩ := dp_ofL n ds r p.2 h2
    refine ⟨.cons a1 b1, by simp [toPyL, PyData.canLayAll0, a2, b2], by simp only [toPyL, PyData.depthAll]; omega⟩
end
mutual
theorem eqv_py : ∀ (d e : D) (n m : Nat), pl n d = true → pl m e = true → PyData.eqv (toPy d) (toPy e) = eqv d e
  | .non, e, n, m, _, q => by cases e <;> first | (cases m <;> simp [pl] at q; done) | simp [toPy, PyData.eqv, eqv]
  | .bl b, e, n, m, _, _ => by cases e <;> simp [toPy, PyData.eqv, eqv, b2i]
  | .int b, e, n, m, _, _ => by cases e <;> simp [toPy, PyData.eqv, eqv, b2i]
  | .str b, e, n, m, _, _ => by
    cases e with
    | str c =>
      simp only [toPy, PyData.eqv, eqv]
      by_cases q : b = c
      · subst q
        simp
      · rw [beq_eq_false_iff_ne.mpr q]
        exact beq_eq_false_iff_ne.mpr fun z => q (ofS_inj z)
    | _ => simp [toPy, PyData.eqv, eqv]
  | .tup xs, e, n, m, p, q => by
    cases e with
    | tup ys =>
      cases n with
      | zero => simp [pl] at p
      | succ n =>
        cases m with
        | zero => simp [pl] at q
        | succ m =>
          simp only [toPy, PyData.eqv, eqv]
          exact eqv_pyL xs ys n m (by simpa only [pl] using p) (by simpa only [pl] using q)
    | _ => simp [toPy, PyData.eqv, eqv]
  | .lst xs, e, n, m, p, q => by
    cases e with
    | lst ys =>
      cases n with
      | zero => simp [pl] at p
      | succ n =>
        cases m with
        | zero => simp [pl] at q
        | succ m =>
          simp only [toPy, PyData.eqv, eqv]
          exact eqv_pyL xs ys n m (by simpa only [pl] using p) (by simpa only [pl] using q)
    | _ => simp [toPy, PyData.eqv, eqv]
  | .dic _, e, n, m, p, _ => by cases n <;> simp [pl] at p
  | .ins _ _, e, n, m, p, _ => by cases n <;> simp [pl] at p
theorem eqv_pyL : ∀ (ds es : List D) (n m : Nat), ds.all (pl n) = true → es.all (pl m) = true → PyData.eqvAll (toPyL ds) (toPyL es) = eqv.eqvL ds es
  | [], [], _, _, _, _ => by simp [toPyL, PyData.eqvAll, eqv.eqvL]
  | [], _ :: _, _, _, _, _ => by simp [toPyL, PyData.eqvAll, eqv.eqvL]
  | _ :: _, [], _, _, _, _ => by simp [toPyL, PyData.eqvAll, eqv.eqvL]
  | d :: ds, e :: es, n, m, p, q => by
    simp only [List.all_cons, Bool.and_eq_true] at p q
    simp only [toPyL, PyData.eqvAll, eqv.eqvL]
    rw [eqv_py d e n m p.1 q.1, eqv_pyL ds es n m p.2 q.2]
end
/-! ### two operands, one operand -/
def r2 (K : Frag) (f : D → D → Res D) : R2 := fun x y H Q => ∃ A d1 d2 d, RepW K A H d1 x ∧ RepW K A H d2 y ∧ (∀ a, A a → H a ≠ none) ∧ f d1 d2 = .ok d ∧ ∀ v H', Same H H' → Rep K A H' d v → Q v H'
def r1 (K : Frag) (f : D → Res D) : V → Hp → VK → Prop := fun x H Q => ∃ A d1 d, RepW K A H d1 x ∧ (∀ a, A a → H a ≠ none) ∧ f d1 = .ok d ∧ ∀ v H', Same H H' → Rep K A H' d v → Q v H'
def NoEx2 (f : D → D → Res D) : Prop := ∀ x y c fs, f x y ≠ .exc c fs
def NoEx1 (f : D → Res D) : Prop := ∀ x c fs, f x ≠ .exc c fs
theorem r2_of {K : Frag} {A : AS} {W : WX} {O : OW} {σ : L2.St} {H0 : Base} {f : D → D → Res D} (hf : NoEx2 f) {x y : V} {H : Hp} {Q : VK} {d1 d2 : D} (h1 : RepW K A H d1 x) (h2 : RepW K A H d2 y) (ha : ∀ a, A a → H a ≠ none)
    {bad : String → List (String × D) → Prop} (h : Out (f d1 d2) (fun d => ∀ v H', Same H H' → Rep K A H' d v → Q v H') bad) : r2 K f x y H Q := by
  cases e : f d1 d2 with
  | ok d =>
    rw [e] at h
    exact ⟨A, d1, d2, d, h1, h2, ha, e, h⟩
  | exc c fs => exact absurd e (hf _ _ _ _)
  | stuck =>
    rw [e] at h
    exact h.elim
theorem RepW.move {K : Frag} {A : AS} {H H' : Hp} (s : Same H H') {d : D} {v : V} (h : RepW K A H d v) : RepW K A H' d v := by
  cases d with
  | lst xs =>
    obtain ⟨a, vs, e, q, r⟩ := h
    refine ⟨a, vs, e, ?_, RepL.move (Mv.same s) _ _ r⟩
    rcases q with q | ⟨o, q⟩
    · exact .inl (s _ _ q)
    · exact .inr ⟨o, s _ _ q⟩
  | ins c fs =>
    obtain ⟨a, dx, fvs, e, q, r⟩ := h
    exact ⟨a, dx, fvs, e, s _ _ q, RepF.move (Mv.same s) _ _ r⟩
  | _ => exact Rep.move (Mv.same s) _ _ h
section
variable {X : Cx} {W : WX} {A : AS} {H0 : Base} {ow : Ow} {a b : Expr} {ma mb : EM} {pos : Pos}
theorem two_of {f : D → D → Res D} (hf : NoEx2 f) {σ : L2.St} {H : Hp} {Q : VK} (h : tE X.K W ow (bin f ma mb) σ H Q) : tOp (r2 X.K f) (tW X.K W ow ma) (tW X.K W ow mb) σ H Q := by
  obtain ⟨A, H0, O, en, R, q⟩ := h
  refine ⟨A, H0, O, en, R, (Out.bind q).good fun d1 q1 v1 H1 s1 r1 => ?_⟩
  refine ⟨A, H0, O, en, R.to s1, ((Out.bind q1).to s1).good fun d2 q2 v2 H2 s2 r2 => ?_⟩
  have R2 := (R.to s1).to s2
  exact r2_of (W := W) (O := O) (σ := σ) (H0 := H0) hf (r1.move s2) r2 R2.there (q2.good fun d k v H' s' r => k v H' ((s1.trans s2).trans s') r)
theorem one_of {f : D → Res D} (hf : NoEx1 f) {σ : L2.St} {H : Hp} {Q : VK} (h : tE X.K W ow (un f ma) σ H Q) : tUn (r1 X.K f) (tW X.K W ow ma) σ H Q := by
  obtain ⟨A, H0, O, en, R, q⟩ := h
  refine ⟨A, H0, O, en, R, (Out.bind q).good fun d1 q1 v1 H1 s1 r1 => ?_⟩
  have R2 := R.to s1
  cases e : f d1 with
  | ok d =>
    rw [e] at q1
    exact ⟨_, d1, d, r1, R2.there, e, fun v H' s' r => q1 v H' (s1.trans s') r⟩
  | exc c fs => exact absurd e (hf _ _ _)
  | stuck =>
    rw [e] at q1
    exact q1.elim
theorem x_bin {op : Operator} {f : D → D → Res D} (ho : OpR X (binaryOp op) (r2 X.K f)) (hf : NoEx2 f) (ha : PE X a (tW X.K W ow ma)) (hb : PE X b (tW X.K W ow mb)) : PE X (.BinOp a op b pos) (tE X.K W ow (bin f ma mb)) :=
  PE.of (pe_op ho ha hb) fun _ _ _ h => two_of hf h
theorem x_un {op : UnaryOp} {f : D → Res D} (ho : UnR X (unaryOp op) (r1 X.K f)) (hf : NoEx1 f) (ha : PE X a (tW X.K W ow ma)) : PE X (.UnaryOp op a pos) (tE X.K W ow (un f ma)) :=
  PE.of (pe_un ho ha) fun _ _ _ h => one_of hf h
theorem x_cmp {op : CmpOp} {f : D → D → Res D} (ho : OpR X (compareOp op) (r2 X.K f)) (hf : NoEx2 f) (ha : PE X a (tW X.K W ow ma)) (hb : PE X b (tW X.K W ow mb)) (hm : behindInMarks op b = false) : PE X (.Compare a [op] [b] pos) (tE X.K W ow (bin f ma mb)) :=
  PE.of (pe_cmpR ho ha hb hm) fun _ _ _ h => two_of hf h
/-! ### ints -/
theorem rep_int {K : Frag} {A : AS} {H : Hp} {i : Int} {v : V} (h : RepW K A H (.int i) v) : v = .int i := h
theorem imp2 {g : Value → Value → Sem Value} {r r' : R2} (h : OpR X g r) (k : ∀ x y H Q, r' x y H Q → r x y H Q) : OpR X g r' := fun pins s σ H x y v u Q I rx ry q => h pins s σ H x y v u Q I rx ry (k x y H Q q)
theorem imp1 {g : Value → Sem Value} {r r' : V → Hp → VK → Prop} (h : UnR X g r) (k : ∀ x H Q, r' x H Q → r x H Q) : UnR X g r' := fun pins s σ H x v Q I rx q => h pins s σ H x v Q I rx (k x H Q q)
theorem int_op {g : Value → Value → Sem Value} {f : D → D → Res D} {C : Int → Int → Prop} {z : Int → Int → V} {zd : Int → Int → D} (h : OpR X g (rI C z))
    (hz : ∀ i j, flat (zd i j) = some (z i j)) (hf : ∀ d1 d2 d, f d1 d2 = .ok d → ∃ i j, d1 = .int i ∧ d2 = .int j ∧ C i j ∧ d = zd i j) : OpR X g (r2 X.K f) := imp2 h fun x y H Q ⟨A, d1, d2, d, h1, h2, _, e, k⟩ => by
  obtain ⟨i, j, rfl, rfl, c, rfl⟩ := hf d1 d2 d e
  exact ⟨i, j, rep_int h1, rep_int h2, c, k _ H (Same.refl H) (flat_rep (hz i j) _ _)⟩
theorem rI_of {g : Value → Value → Sem Value} {z : Int → Int → V} (h : OpR X g (rI0 z)) : OpR X g (rI (fun _ _ => True) z) := imp2 h fun x y H Q ⟨i, j, e1, e2, _, q⟩ => ⟨i, j, e1, e2, q⟩
theorem y_sub : OpR X (binaryOp .Sub) (r2 X.K osub) := int_op (rI_of op_sub) (zd := fun i j => .int (i - j)) (fun _ _ => rfl) fun d1 d2 d e => by
  cases d1 <;> cases d2 <;> simp only [osub, Res.ok.injEq, reduceCtorEq] at e
  exact ⟨_, _, rfl, rfl, trivial, e.symm⟩
theorem y_mul : OpR X (binaryOp .Mult) (r2 X.K omul) := int_op op_mul (zd := fun i j => .int (i * j)) (fun _ _ => rfl) fun d1 d2 d e => by
  cases d1 <;> cases d2 <;> simp only [omul, reduceCtorEq] at e
  split at e
  · rename_i c
    refine ⟨_, _, rfl, rfl, ?_, ?_⟩
    · simp only [B64] at c
      unfold CMul
      have e64 : (2 : Int) ^ 64 = 18446744073709551616 := by decide
      rw [e64]
      omega
    · simp only [Res.ok.injEq] at e
      exact e.symm
  · cases e
theorem y_fdiv : OpR X (binaryOp .FloorDiv) (r2 X.K ofdiv) := int_op op_fdiv (zd := fun i j => .int (i / j)) (fun _ _ => rfl) fun d1 d2 d e => by
  cases d1 <;> cases d2 <;> simp only [ofdiv, reduceCtorEq] at e
  split at e
  · rename_i c
    simp only [Res.ok.injEq] at e
    exact ⟨_, _, rfl, rfl, c, e.symm⟩
  · cases e
theorem y_mod : OpR X (binaryOp .Mod) (r2 X.K omod) := int_op op_mod (zd := fun i j => .int (i % j)) (fun _ _ => rfl) fun d1 d2 d e => by
  cases d1 <;> cases d2 <;> simp only [omod, reduceCtorEq] at e
  split at e
  · rename_i c
    simp only [Res.ok.injEq] at e
    exact ⟨_, _, rfl, rfl, c, e.symm⟩
  · cases e
theorem y_pow : OpR X (binaryOp .Pow) (r2 X.K opow) := int_op op_pow (zd := fun i j => .int (i ^ j.toNat)) (fun _ _ => rfl) fun d1 d2 d e => by
  cases d1 <;> cases d2 <;> simp only [opow, reduceCtorEq] at e
  split at e
  · rename_i c
    simp only [Res.ok.injEq] at e
    refine ⟨_, _, rfl, rfl, ?_, e.symm⟩
    have e64 : (2 : Nat) ^ 64 = 18446744073709551616 := by decide
    unfold CPow
    rw [e64]
    exact c
  · cases e
theorem y_shl : OpR X (binaryOp .LShift) (r2 X.K oshl) := int_op op_shlW (zd := fun i j => .int (i * 2 ^ j.toNat)) (fun _ _ => rfl) fun d1 d2 d e => by
  cases d1 <;> cases d2 <;> simp only [oshl, reduceCtorEq] at e
  split at e
  · rename_i c
    simp only [Res.ok.injEq] at e
    refine ⟨_, _, rfl, rfl, ?_, e.symm⟩
    have e64 : (2 : Int) ^ 27 = 134217728 := by decide
    unfold CShl
    rw [e64]
    exact c
  · cases e
theorem y_shr : OpR X (binaryOp .RShift) (r2 X.K oshr) := int_op op_shr (zd := fun i j => .int (i / 2 ^ j.toNat)) (fun _ _ => rfl) fun d1 d2 d e => by
  cases d1 <;> cases d2 <;> simp only [oshr, reduceCtorEq] at e
  split at e
  · rename_i c
    simp only [Res.ok.injEq] at e
    exact ⟨_, _, rfl, rfl, c, e.symm⟩
  · cases e
theorem y_and : OpR X (binaryOp .BitAnd) (r2 X.K oand) := int_op (rI_of op_and) (zd := fun i j => .int (Builtin.bitAnd i j)) (fun _ _ => rfl) fun d1 d2 d e => by
  cases d1 <;> cases d2 <;> simp only [oand, Res.ok.injEq, reduceCtorEq] at e
  exact ⟨_, _, rfl, rfl, trivial, e.symm⟩
theorem y_lt : OpR X (compareOp .Lt) (r2 X.K olt) := int_op (rI_of op_lt) (zd := fun i j => .bl (decide (i < j))) (fun _ _ => rfl) fun d1 d2 d e => by
  cases d1 <;> cases d2 <;> simp only [olt, Res.ok.injEq, reduceCtorEq] at e
  exact ⟨_, _, rfl, rfl, trivial, e.symm⟩
theorem y_le : OpR X (compareOp .LtE) (r2 X.K ole) := int_op (rI_of op_le) (zd := fun i j => .bl (decide (i ≤ j))) (fun _ _ => rfl) fun d1 d2 d e => by
  cases d1 <;> cases d2 <;> simp only [ole, Res.ok.injEq, reduceCtorEq] at e
  exact ⟨_, _, rfl, rfl, trivial, e.symm⟩
theorem y_gt : OpR X (compareOp .Gt) (r2 X.K ogt) := int_op (rI_of op_gt) (zd := fun i j => .bl (decide (j < i))) (fun _ _ => rfl) fun d1 d2 d e => by
  cases d1 <;> cases d2 <;> simp only [ogt, Res.ok.injEq, reduceCtorEq] at e
  exact ⟨_, _, rfl, rfl, trivial, e.symm⟩
theorem y_ge : OpR X (compareOp .GtE) (r2 X.K oge) := int_op (rI_of op_ge) (zd := fun i j => .bl (decide (j ≤ i))) (fun _ _ => rfl) fun d1 d2 d e => by
  cases d1 <;> cases d2 <;> simp only [oge, Res.ok.injEq, reduceCtorEq] at e
  exact ⟨_, _, rfl, rfl, trivial, e.symm⟩
theorem y_neg : UnR X (unaryOp .USub) (r1 X.K oneg) := imp1 un_neg fun x H Q ⟨A, d1, d, h1, _, e, k⟩ => by
  cases d1 <;> simp only [oneg, Res.ok.injEq, reduceCtorEq] at e
  subst e
  exact ⟨_, rep_int h1, k _ H (Same.refl H) (flat_rep rfl _ _)⟩
/-! ### == and in -/
theorem y_eq (hu : X.A.units + 64 < cLine) : OpR X (compareOp .Eq) (r2 X.K oeq) := imp2 (op_eqD hu) fun x y H Q ⟨A, d1, d2, d, h1, h2, _, e, k⟩ => by
  unfold oeq at e
  split at e
  · rename_i c
    rw [Bool.and_eq_true] at c
    simp only [Res.ok.injEq] at e
    subst e
    obtain ⟨a1, a2, a3⟩ := dp_of 64 d1 x c.1 h1.none
    obtain ⟨b1, b2, b3⟩ := dp_of 64 d2 y c.2 h2.none
    refine ⟨_, _, a1, b1, ?_, ?_, ?_⟩
    · unfold SeqAt.shaped
      rw [a2, decide_eq_true a3]
      rfl
    · unfold SeqAt.shaped
      rw [b2, decide_eq_true b3]
      rfl
    · rw [eqv_py d1 d2 64 64 c.1 c.2]
      exact k _ H (Same.refl H) (flat_rep rfl _ _)
  · cases e
theorem y_ne (hu : X.A.units + 64 < cLine) : OpR X (compareOp .NotEq) (r2 X.K one) := imp2 (op_neD hu) fun x y H Q ⟨A, d1, d2, d, h1, h2, _, e, k⟩ => by
  unfold one at e
  split at e
  · rename_i c
    rw [Bool.and_eq_true] at c
    simp only [Res.ok.injEq] at e
    subst e
    obtain ⟨a1, a2, a3⟩ := dp_of 64 d1 x c.1 h1.none
    obtain ⟨b1, b2, b3⟩ := dp_of 64 d2 y c.2 h2.none
    refine ⟨_, _, a1, b1, ?_, ?_, ?_⟩
    · unfold SeqAt.shaped
      rw [a2, decide_eq_true a3]
      rfl
    · unfold SeqAt.shaped
      rw [b2, decide_eq_true b3]
      rfl
    · rw [eqv_py d1 d2 64 64 c.1 c.2]
      exact k _ H (Same.refl H) (flat_rep rfl _ _)
  · cases e
/-! ### + -/
theorem RepL.empty {K : Frag} {A : AS} {H : Hp} {ds : List D} {vs : List V} (h : RepL K A H ds vs) : ds = [] ↔ vs = [] := by
  have := h.length
  constructor
  · intro e
    subst e
    exact List.eq_nil_of_length_eq_zero this.symm
  · intro e
    subst e
    exact List.eq_nil_of_length_eq_zero this
/-- a new object is clean -/
theorem new_same {H : Hp} {p : Addr} {o : HO} (h : H p = none) : Same H (upd H p o) := fun b u e => by
  rw [upd_ne (ne_of_none e h)]
  exact e
theorem new_tup {K : Frag} {A : AS} {H : Hp} {ds : List D} {vs : List V} (r : RepL K A H ds vs) {p : Addr} (h : H p = none) : Rep K A (upd H p (.tup vs)) (.tup ds) (.ref p) := by
  simp only [Rep]
  exact ⟨p, vs, rfl, .inl (.inl upd_same), RepL.move (Mv.same (new_same h)) _ _ r⟩
theorem new_lst {K : Frag} {A : AS} {H : Hp} (ha : ∀ a, A a → H a ≠ none) {ds : List D} {vs : List V} (r : RepL K A H ds vs) {p : Addr} (h : H p = none) : Rep K A (upd H p (.lst vs)) (.lst ds) (.ref p) := by
  simp only [Rep]
  exact ⟨p, vs, rfl, fun z => ha p z h, .inl upd_same, RepL.move (Mv.same (new_same h)) _ _ r⟩
theorem str_app (a b : String) : Str.ofString a ++ Str.ofString b = Str.ofString (a ++ b) := by
  simp only [Str.ofString_eq_toList]
  show Str.append _ _ = _
  simp [Str.append]
theorem lst_at {pins : List (Addr × Obj)} {σ : L2.St} {H : Hp} {s : Shared} (I : Inv X pins σ H s) {a : Addr} {vs : List V} (h : Rd H a (.lst vs)) :
    vs.length ≤ sizeLine ∧ ∃ (its : List Value) (n : Nat), Vals vs its ∧ s.heap.get? a = some { cls := .type "list", data := .seq its.toArray n } := h.ok I.hok
theorem y_add : OpR X (binaryOp .Add) (r2 X.K oadd) := by
  intro pins s σ H x y v u Q I rx ry ⟨A, d1, d2, d, h1, h2, ha, e, k⟩
  cases d1 with
  | int i =>
    cases d2 <;> simp only [oadd, Res.ok.injEq, reduceCtorEq] at e
    subst e
    exact op_add pins s σ H x y v u Q I rx ry ⟨_, _, rep_int h1, rep_int h2, k _ H (Same.refl H) (flat_rep rfl _ _)⟩
  | str i =>
    cases d2 <;> simp only [oadd, Res.ok.injEq, reduceCtorEq] at e
    split at e
    · rename_i j c
      simp only [Res.ok.injEq] at e
      subst e
      refine op_add_str pins s σ H x y v u Q I rx ry ⟨_, _, h1, h2, by rw [str_len, str_len]; exact c, ?_⟩
      rw [str_app]
      exact k _ H (Same.refl H) (flat_rep rfl _ _)
    · cases e
  | tup xs =>
    cases d2 <;> simp only [oadd, Res.ok.injEq, reduceCtorEq] at e
    rename_i ys
    split at e
    · rename_i c
      simp only [Res.ok.injEq] at e
      subst e
      obtain ⟨a, vs, rfl, q1, p1⟩ := (by simpa only [RepW, Rep] using h1 : ∃ a vs, x = .ref a ∧ SqT X.K H a vs ∧ RepL X.K A H xs vs)
      obtain ⟨b, ws, rfl, q2, p2⟩ := (by simpa only [RepW, Rep] using h2 : ∃ a vs, y = .ref a ∧ SqT X.K H a vs ∧ RepL X.K A H ys vs)
      refine op_catA pins s σ H _ _ v u Q I rx ry ⟨a, b, vs, ws, rfl, rfl, q1, q2, by rw [← p1.length, ← p2.length]; exact c, fun z => ?_, fun _ z => ?_, fun _ _ p hp => ?_⟩
      · have z1 := p1.empty.mpr z
        subst z1
        exact k _ H (Same.refl H) h2
      · have z1 := p2.empty.mpr z
        subst z1
        rw [List.append_nil] at k
        exact k _ H (Same.refl H) h1
      · exact k _ _ (new_same hp) (new_tup (p1.append p2) hp)
    · cases e
  | lst xs =>
    cases d2 <;> simp only [oadd, Res.ok.injEq, reduceCtorEq] at e
    rename_i ys
    split at e
    · rename_i c
      simp only [Res.ok.injEq] at e
      subst e
      obtain ⟨a, vs, rfl, q1, p1⟩ := h1
      obtain ⟨b, ws, rfl, q2, p2⟩ := h2
      cases rx
      cases ry
      obtain ⟨z1, its, n, rr1, e1⟩ := lst_at I q1
      obtain ⟨z2, its2, n2, rr2, e2⟩ := lst_at I q2
      have hl1 := rr1.length
      have hl2 := rr2.length
      have hl3 := p1.length
      have hl4 := p2.length
      have hsz : SZ = sizeLine := rfl
      refine PySem.P.add_list e1 e2 ?_ (by rw [List.size_toArray, List.size_toArray]; omega)
      have ea : its.toArray ++ its2.toArray = (its ++ its2).toArray := by simp
      rw [ea]
      exact ⟨.ref _, _, I.lnew (t' := s.toks) (rr1.append rr2) (by rw [List.length_append]; omega), rfl, k _ _ (new_same I.fresh) (new_lst ha (p1.append p2) I.fresh)⟩
    · cases e
  | _ => simp [oadd] at e
end
theorem n_add : NoEx2 oadd := fun x y c fs => by
  cases x <;> cases y <;> simp only [oadd] <;> first | (split <;> exact fun z => nomatch z) | exact fun z => nomatch z
theorem n_sub : NoEx2 osub := fun x y c fs => by cases x <;> cases y <;> exact fun z => nomatch z
theorem n_mul : NoEx2 omul := fun x y c fs => by
  cases x <;> cases y <;> simp only [omul] <;> first | (split <;> exact fun z => nomatch z) | exact fun z => nomatch z
theorem n_fdiv : NoEx2 ofdiv := fun x y c fs => by
  cases x <;> cases y <;> simp only [ofdiv] <;> first | (split <;> exact fun z => nomatch z) | exact fun z => nomatch z
theorem n_mod : NoEx2 omod := fun x y c fs => by
  cases x <;> cases y <;> simp only [omod] <;> first | (split <;> exact fun z => nomatch z) | exact fun z => nomatch z
theorem n_pow : NoEx2 opow := fun x y c fs => by
  cases x <;> cases y <;> simp only [opow] <;> first | (split <;> exact fun z => nomatch z) | exact fun z => nomatch z
theorem n_shl : NoEx2 oshl := fun x y c fs => by
  cases x <;> cases y <;> simp only [oshl] <;> first | (split <;> exact fun z => nomatch z) | exact fun z => nomatch z
theorem n_shr : NoEx2 oshr := fun x y c fs => by
  cases x <;> cases y <;> simp only [oshr] <;> first | (split <;> exact fun z => nomatch z) | exact fun z => nomatch z
theorem n_and : NoEx2 oand := fun x y c fs => by cases x <;> cases y <;> exact fun z => nomatch z
theorem n_lt : NoEx2 olt := fun x y c fs => by cases x <;> cases y <;> exact fun z => nomatch z
theorem n_le : NoEx2 ole := fun x y c fs => by cases x <;> cases y <;> exact fun z => nomatch z
theorem n_gt : NoEx2 ogt := fun x y c fs => by cases x <;> cases y <;> exact fun z => nomatch z
theorem n_ge : NoEx2 oge := fun x y c fs => by cases x <;> cases y <;> exact fun z => nomatch z
theorem n_neg : NoEx1 oneg := fun x c fs => by cases x <;> exact fun z => nomatch z
theorem n_eq : NoEx2 oeq := fun x y c fs => by
  unfold oeq
  split <;> exact fun z => nomatch z
theorem n_ne : NoEx2 one := fun x y c fs => by
  unfold one
  split <;> exact fun z => nomatch z
end Py
/-! Tests, displays, subscripts, attributes, calls of built-ins. -/
namespace Py
open PySem L2
section
variable {X : Cx} {W : WX} {A : AS} {H0 : Base} {ow : Ow} {a b c : Expr} {ma mb mc : EM} {pos : Pos}
/-! ### truths -/
theorem bl_of {K : Frag} {A : AS} {H : Hp} {k : Bool} {v : V} (h : Rep K A H (.bl k) v) : v = .bl k := h
theorem rep_bl {K : Frag} {A : AS} {H : Hp} {k : Bool} : Rep K A H (.bl k) (.bl k) := rfl
theorem x_and {rest : List Expr} (ha : PE X a (tE X.K W ow ma)) (hb : PE X (.BoolOp .And (b :: rest) pos) (tE X.K W ow mb)) : PE X (.BoolOp .And (a :: b :: rest) pos) (tE X.K W ow (andE ma mb)) :=
  PE.of (pe_and ha hb) fun σ H Q ⟨A, H0, O, en, R, q⟩ => ⟨A, H0, O, en, R, (Out.bind q).good fun d q1 v H1 s1 r1 => by
    cases d with
    | bl k =>
      cases k with
      | true =>
        refine ⟨true, bl_of r1, ?_⟩
        rw [if_pos rfl]
        exact ⟨A, H0, O, en, R.to s1, (q1.to s1).good fun d2 q2 v2 H2 s2 r2 => q2 v2 H2 (s1.trans s2) r2⟩
      | false =>
        refine ⟨false, bl_of r1, ?_⟩
        rw [if_neg (by decide)]
        exact q1 _ _ s1 rep_bl
    | _ => exact q1.elim⟩
theorem x_one {op} (h : PE X a (tE X.K W ow ma)) : PE X (.BoolOp op [a] pos) (tE X.K W ow ma) := pe_one h
/-- not x, of a truth -/
theorem x_not (ha : PE X a (tE X.K W ow ma)) : PE X (.UnaryOp .Not a pos) (tE X.K W ow (un onb ma)) :=
  PE.of (pe_not ha) fun σ H Q ⟨A, H0, O, en, R, q⟩ => ⟨A, H0, O, en, R, (Out.bind q).good fun d q1 v H1 s1 r1 => by
    cases d with
    | bl k => exact ⟨k, bl_of r1, q1 _ _ s1 rep_bl⟩
    | _ => exact q1.elim⟩
theorem chain_of {f g : D → D → Res D} (hf : NoEx2 f) (hg : NoEx2 g) {σ : L2.St} {H : Hp} {Q : VK} (h : tE X.K W ow (chain f g ma mb mc) σ H Q) : tChain (r2 X.K f) (r2 X.K g) (tW X.K W ow ma) (tW X.K W ow mb) (tW X.K W ow mc) σ H Q := by
  obtain ⟨A, H0, O, en, R, q⟩ := h
  refine ⟨A, H0, O, en, R, (Out.bind q).good fun d1 q1 v1 H1 s1 r1 => ⟨A, H0, O, en, R.to s1, ((Out.bind q1).to s1).good fun d2 q2 v2 H2 s2 r2 => ?_⟩⟩
  have R2 := (R.to s1).to s2
  have q3 := Out.bind q2
  cases e : f d1 d2 with
  | exc cc fs => exact absurd e (hf _ _ _ _)
  | stuck =>
    rw [e] at q3
    exact q3.elim
  | ok d =>
    rw [e] at q3
    refine ⟨_, d1, d2, d, r1.move s2, r2, R2.there, e, fun v3 H3 s3 r3 => ?_⟩
    have q4 : Out _ _ _ := q3
    cases d with
    | bl k =>
      cases k with
      | false =>
        refine ⟨false, bl_of r3, ?_⟩
        rw [if_neg (by decide)]
        exact q4 _ _ ((s1.trans s2).trans s3) rep_bl
      | true =>
        refine ⟨true, bl_of r3, ?_⟩
        rw [if_pos rfl]
        refine ⟨A, H0, O, en, R2.to s3, ((Out.bind q4).to ((s1.trans s2).trans s3)).good fun d4 q5 v4 H4 s4 r4 => ?_⟩
        exact r2_of (W := W) (O := O) (σ := σ) (H0 := H0) hg (r2.move (s3.trans s4)) r4 ((R2.to s3).to s4).there (q5.good fun d k v H' s' r => k v H' ((((s1.trans s2).trans s3).trans s4).trans s') r)
    | _ => exact q4.elim
theorem x_chain {op op' : CmpOp} {f g : D → D → Res D} (ho : OpR X (compareOp op) (r2 X.K f)) (ho' : OpR X (compareOp op') (r2 X.K g)) (hf : NoEx2 f) (hg : NoEx2 g)
    (ha : PE X a (tW X.K W ow ma)) (hb : PE X b (tW X.K W ow mb)) (hc : PE X c (tW X.K W ow mc))
    (hm : lastMarks [op, op'] [b, c] = false := by with_unfolding_all rfl) : PE X (.Compare a [op, op'] [b, c] pos) (tE X.K W ow (chain f g ma mb mc)) :=
  PE.of (pe_chain ho ho' ha hb hc hm) fun _ _ _ h => chain_of hf hg h
/-! ### tests -/
theorem trim {K : Frag} {A : AS} {H : Hp} {d : D} {v : V} {k : Bool} (h : RepW K A H d v) (e : truthy d = .ok k) : TruV K v H k := by
  cases d with
  | non =>
    simp only [truthy, Res.ok.injEq] at e
    have h' : v = .non := h
    subst h' e
    rfl
  | bl b =>
    simp only [truthy, Res.ok.injEq] at e
    have h' : v = .bl b := h
    subst h' e
    rfl
  | int i =>
    simp only [truthy, Res.ok.injEq] at e
    have h' : v = .int i := h
    subst h' e
    rfl
  | str s =>
    simp only [truthy] at e
    split at e
    · rename_i cc
      simp only [Res.ok.injEq] at e
      have h' : v = .str (Str.ofString s) := h
      subst h' e
      refine ⟨by rw [str_len]; exact cc, ?_⟩
      rw [str_len]
      cases hh : s.length with
      | zero => rfl
      | succ n =>
        have e1 : (((n + 1 : Nat) : Int) == 0) = false := beq_eq_false_iff_ne.mpr (by omega)
        have e2 : ((n + 1 : Nat) == 0) = false := rfl
        unfold bne
        rw [e1, e2]
    · cases e
  | tup xs =>
    simp only [truthy, Res.ok.injEq] at e
    obtain ⟨a, vs, rfl, q, r⟩ := (by simpa only [RepW, Rep] using h : ∃ a vs, v = .ref a ∧ SqT K H a vs ∧ RepL K A H xs vs)
    refine .inr (.inl ⟨vs, q, ?_⟩)
    subst e
    have hl := r.length
    cases xs <;> cases vs <;> first | rfl | simp at hl
  | lst xs =>
    simp only [truthy, Res.ok.injEq] at e
    obtain ⟨a, vs, rfl, q, r⟩ := h
    refine .inl ⟨vs, .inl q, ?_⟩
    subst e
    have hl := r.length
    cases xs <;> cases vs <;> first | rfl | simp at hl
  | dic _ => simp [truthy] at e
  | ins _ _ => simp [truthy] at e
theorem no_truthy : ∀ d c fs, truthy d ≠ .exc c fs := fun d c fs => by
  cases d <;> simp only [truthy] <;> first | (split <;> exact fun z => nomatch z) | exact fun z => nomatch z
/-- any expression as a test -/
theorem t_tst (ha : PE X a (tW X.K W ow ma)) (he : ∀ whole, isTrue a X.env whole = (do let v ← whole; standAt a.pos; holding [v] (PySem.truthy v))) : PT X a (tT X.K W ow (tst ma)) :=
  PT.of (pt_truth ha he) fun σ H Q ⟨A, H0, O, en, R, q⟩ => ⟨A, H0, O, en, R, (Out.bind q).good fun d q1 v H1 s1 r1 => by
    cases e : Py.truthy d with
    | ok k =>
      rw [e] at q1
      exact ⟨k, trim r1 e, q1 H1 s1⟩
    | exc c fs => exact absurd e (no_truthy _ _ _)
    | stuck =>
      rw [e] at q1
      exact q1.elim⟩
/-- what gives a truth, as a test -/
def Bl (m : EM) : Prop := ∀ e d, m e = .ok d → ∃ k, d = .bl k
theorem Bl.bin {f : D → D → Res D} (h : ∀ x y d, f x y = .ok d → ∃ k, d = .bl k) {ma mb : EM} : Bl (bin f ma mb) := fun e d q => by
  unfold Py.bin at q
  cases e1 : ma e with
  | ok d1 =>
    rw [e1, bind_ok] at q
    cases e2 : mb e with
    | ok d2 =>
      rw [e2, bind_ok] at q
      exact h _ _ _ q
    | exc _ _ => rw [e2] at q; cases q
    | stuck => rw [e2] at q; cases q
  | exc _ _ => rw [e1] at q; cases q
  | stuck => rw [e1] at q; cases q
theorem tst_of {m : EM} (hm : Bl m) {σ : L2.St} {H : Hp} {Q : Bool → Hp → Prop} (h : tT X.K W ow (tst m) σ H Q) : tE X.K W ow m σ H fun x H' => ∃ k, x = .bl k ∧ Q k H' := by
  obtain ⟨A, H0, O, en, R, q⟩ := h
  refine ⟨A, H0, O, en, R, (Out.bind q).imp (fun d e q1 v H1 s1 r1 => ?_) fun _ _ x => x⟩
  obtain ⟨k, rfl⟩ := hm _ _ e
  exact ⟨k, bl_of r1, q1 H1 s1⟩
/-- a comparison as a test -/
theorem t_cmp {op : CmpOp} {f : D → D → Res D} (ho : OpR X (compareOp op) (r2 X.K f)) (hf : NoEx2 f) (hb2 : ∀ x y d, f x y = .ok d → ∃ k, d = .bl k) (ha : PE X a (tW X.K W ow ma)) (hb : PE X b (tW X.K W ow mb)) (hm : behindInMarks op b = false) :
    PT X (.Compare a [op] [b] pos) (tT X.K W ow (tst (bin f ma mb))) :=
  PT.of (pt_cmpR ho ha hb hm) fun _ _ _ h => two_of hf (tst_of (Bl.bin hb2) h)
theorem t_chain {op op' : CmpOp} {f g : D → D → Res D} (ho : OpR X (compareOp op) (r2 X.K f)) (ho' : OpR X (compareOp op') (r2 X.K g)) (hf : NoEx2 f) (hg : NoEx2 g) (hm2 : Bl (chain f g ma mb mc))
    (ha : PE X a (tW X.K W ow ma)) (hb : PE X b (tW X.K W ow mb)) (hc : PE X c (tW X.K W ow mc))
    (hm : lastMarks [op, op'] [b, c] = false := by with_unfolding_all rfl) : PT X (.Compare a [op, op'] [b, c] pos) (tT X.K W ow (tst (chain f g ma mb mc))) :=
  PT.of (pt_chain ho ho' ha hb hc hm) fun _ _ _ h => chain_of hf hg (tst_of hm2 h)
theorem Bl.chain {f g : D → D → Res D} (h : ∀ x y d, g x y = .ok d → ∃ k, d = .bl k) {ma mb mc : EM} : Bl (chain f g ma mb mc) := fun e d q => by
  unfold Py.chain at q
  cases e1 : ma e with
  | ok d1 =>
    rw [e1, bind_ok] at q
    cases e2 : mb e with
    | ok d2 =>
      rw [e2, bind_ok] at q
      cases e3 : f d1 d2 with
      | ok z =>
        rw [e3, bind_ok] at q
        cases z with
        | bl k =>
          cases k with
          | false =>
            simp only [Res.ok.injEq] at q
            exact ⟨false, q.symm⟩
          | true =>
            simp only at q
            cases e4 : mc e with
            | ok d4 =>
              rw [e4, bind_ok] at q
              exact h _ _ _ q
            | exc _ _ => rw [e4] at q; cases q
            | stuck => rw [e4] at q; cases q
        | _ => cases q
      | exc _ _ => rw [e3] at q; cases q
      | stuck => rw [e3] at q; cases q
    | exc _ _ => rw [e2] at q; cases q
    | stuck => rw [e2] at q; cases q
  | exc _ _ => rw [e1] at q; cases q
  | stuck => rw [e1] at q; cases q
theorem b_lt : ∀ x y d, olt x y = .ok d → ∃ k, d = .bl k := fun x y d h => by
  cases x <;> cases y <;> simp only [olt, Res.ok.injEq, reduceCtorEq] at h
  exact ⟨_, h.symm⟩
theorem b_le : ∀ x y d, ole x y = .ok d → ∃ k, d = .bl k := fun x y d h => by
  cases x <;> cases y <;> simp only [ole, Res.ok.injEq, reduceCtorEq] at h
  exact ⟨_, h.symm⟩
theorem b_gt : ∀ x y d, ogt x y = .ok d → ∃ k, d = .bl k := fun x y d h => by
  cases x <;> cases y <;> simp only [ogt, Res.ok.injEq, reduceCtorEq] at h
  exact ⟨_, h.symm⟩
theorem b_ge : ∀ x y d, oge x y = .ok d → ∃ k, d = .bl k := fun x y d h => by
  cases x <;> cases y <;> simp only [oge, Res.ok.injEq, reduceCtorEq] at h
  exact ⟨_, h.symm⟩
theorem b_eq : ∀ x y d, oeq x y = .ok d → ∃ k, d = .bl k := fun x y d h => by
  unfold oeq at h
  split at h <;> simp only [Res.ok.injEq, reduceCtorEq] at h
  exact ⟨_, h.symm⟩
theorem b_ne : ∀ x y d, Py.one x y = .ok d → ∃ k, d = .bl k := fun x y d h => by
  unfold Py.one at h
  split at h <;> simp only [Res.ok.injEq, reduceCtorEq] at h
  exact ⟨_, h.symm⟩
theorem t_and1 {t : TM} (ha : PT X a (tT X.K W ow t)) : PW X (.BoolOp .And [a] pos) (tT X.K W ow t) := pw_and1 ha
theorem t_or1 {t : TM} (ha : PT X a (tT X.K W ow t)) : PW X (.BoolOp .Or [a] pos) (tT X.K W ow t) := pw_or1 ha
theorem t_and {t u : TM} {rest : List Expr} (ha : PT X a (tT X.K W ow t)) (hb : PW X (.BoolOp .And (b :: rest) pos) (tT X.K W ow u)) : PW X (.BoolOp .And (a :: b :: rest) pos) (tT X.K W ow (andT t u)) :=
  PW.of (pw_and ha hb) fun σ H Q ⟨A, H0, O, en, R, q⟩ => ⟨A, H0, O, en, R, (Out.bind q).good fun k q1 H1 s1 => by
    cases k with
    | true =>
      rw [if_pos rfl] at q1 ⊢
      exact ⟨A, H0, O, en, R.to s1, (q1.to s1).good fun d2 q2 H2 s2 => q2 H2 (s1.trans s2)⟩
    | false =>
      rw [if_neg (by decide)] at q1 ⊢
      exact q1 H1 s1⟩
theorem t_or {t u : TM} {rest : List Expr} (ha : PT X a (tT X.K W ow t)) (hb : PW X (.BoolOp .Or (b :: rest) pos) (tT X.K W ow u)) : PW X (.BoolOp .Or (a :: b :: rest) pos) (tT X.K W ow (orT t u)) :=
  PW.of (pw_or ha hb) fun σ H Q ⟨A, H0, O, en, R, q⟩ => ⟨A, H0, O, en, R, (Out.bind q).good fun k q1 H1 s1 => by
    cases k with
    | false =>
      rw [if_neg (by decide)] at q1 ⊢
      exact ⟨A, H0, O, en, R.to s1, (q1.to s1).good fun d2 q2 H2 s2 => q2 H2 (s1.trans s2)⟩
    | true =>
      rw [if_pos rfl] at q1 ⊢
      exact q1 H1 s1⟩
theorem t_not {t : TM} (ha : PT X a (tT X.K W ow t)) : PT X (.UnaryOp .Not a pos) (tT X.K W ow (notT t)) :=
  PT.of (pt_not ha) fun σ H Q ⟨A, H0, O, en, R, q⟩ => ⟨A, H0, O, en, R, (Out.bind q).good fun k q1 H1 s1 => q1 H1 s1⟩
/-! ### is None, is True -/
theorem isN_v {K : Frag} {A : AS} {H : Hp} {d : D} {v : V} (h : RepW K A H d v) : decide (v = .non) = isNon d := by
  cases d with
  | non =>
    have h' : v = .non := h
    subst h'
    rfl
  | bl b =>
    have h' : v = .bl b := h
    subst h'
    rfl
  | int b =>
    have h' : v = .int b := h
    subst h'
    rfl
  | str b =>
    have h' : v = .str (Str.ofString b) := h
    subst h'
    rfl
  | tup xs =>
    obtain ⟨a, vs, rfl, q, r⟩ := (by simpa only [RepW, Rep] using h : ∃ a vs, v = .ref a ∧ SqT K H a vs ∧ RepL K A H xs vs)
    rfl
  | lst xs =>
    obtain ⟨a, vs, rfl, q, r⟩ := h
    rfl
  | dic _ => simp only [RepW, Rep] at h
  | ins _ _ =>
    obtain ⟨a, dx, fvs, rfl, _⟩ := h
    rfl
theorem x_isN {j pos'} (ha : PE X a (tW X.K W ow ma)) : PE X (.Compare a [.Is] [.Constant .none j pos'] pos) (tE X.K W ow (un oisN ma)) :=
  PE.of (pe_cmp (pc_isN ha)) fun σ H Q ⟨A, H0, O, en, R, q⟩ => ⟨A, H0, O, en, R, (Out.bind q).good fun d q1 v H1 s1 r1 => by
    dsimp only
    rw [isN_v r1]
    exact q1 _ _ s1 rep_bl⟩
theorem Bl.un {f : D → Res D} (h : ∀ x d, f x = .ok d → ∃ k, d = .bl k) {ma : EM} : Bl (un f ma) := fun e d q => by
  unfold Py.un at q
  cases e1 : ma e with
  | ok d1 =>
    rw [e1, bind_ok] at q
    exact h _ _ q
  | exc _ _ => rw [e1] at q; cases q
  | stuck => rw [e1] at q; cases q
theorem b_isN : ∀ x d, oisN x = .ok d → ∃ k, d = .bl k := fun x d h => ⟨_, (Res.ok.inj h).symm⟩
theorem b_notN : ∀ x d, onotN x = .ok d → ∃ k, d = .bl k := fun x d h => ⟨_, (Res.ok.inj h).symm⟩
theorem t_isN {j pos'} (ha : PE X a (tW X.K W ow ma)) : PT X (.Compare a [.Is] [.Constant .none j pos'] pos) (tT X.K W ow (tst (un oisN ma))) :=
  PT.of (pt_cmp (pc_isN ha)) fun σ H Q h => by
    obtain ⟨A, H0, O, en, R, q⟩ := tst_of (Bl.un b_isN) h
    refine ⟨A, H0, O, en, R, (Out.bind q).good fun d q1 v H1 s1 r1 => ?_⟩
    dsimp only
    rw [isN_v r1]
    exact q1 _ _ s1 rep_bl
theorem t_notN {j pos'} (ha : PE X a (tW X.K W ow ma)) : PT X (.Compare a [.IsNot] [.Constant .none j pos'] pos) (tT X.K W ow (tst (un onotN ma))) :=
  PT.of (pt_cmp (pc_notN ha)) fun σ H Q h => by
    obtain ⟨A, H0, O, en, R, q⟩ := tst_of (Bl.un b_notN) h
    refine ⟨A, H0, O, en, R, (Out.bind q).good fun d q1 v H1 s1 r1 => ?_⟩
    dsimp only
    rw [isN_v r1]
    exact q1 _ _ s1 rep_bl
end
end Py
/-! Displays, subscripts, attributes, calls of built-ins. -/
namespace Py
open PySem L2
/-- values and data, one by one -/
theorem paired_rep {K : Frag} {A : AS} {H : Hp} : ∀ {vs : List V} {ds : List D}, Paired (fun v d => Rep K A H d v) vs ds → RepL K A H ds vs
  | _, _, .nil => by simp [RepL]
  | _, _, .cons r t => by
    simp only [RepL]
    exact ⟨_, _, rfl, r, paired_rep t⟩
section
variable {X : Cx} {W : WX} {A : AS} {H0 : Base} {ow : Ow} {a b c e : Expr} {es : List Expr} {m ma mb mc : EM} {am : AM} {pos : Pos}
/-! ### argument lists -/
abbrev aE (K : Frag) := tA (Rep K) K
theorem xa_nil {R : RR} : PA X [] (tA R X.K W ow argN) := PA.of pa_nil fun σ H Q ⟨A, H0, O, en, R', q⟩ => q [] H (Same.refl H) .nil
theorem xa_cons (ha : PE X e (tE X.K W ow m)) (hr : PA X es (aE X.K W ow am)) (hs : starEach (e :: es) X.env = (false, eval e X.env) :: starEach es X.env := by rfl) : PA X (e :: es) (aE X.K W ow (argC m am)) :=
  PA.of (pa_cons ha hr hs) fun σ H Q ⟨A, H0, O, en, R, q⟩ => ⟨A, H0, O, en, R, (Out.bind q).good fun d q1 v H1 s1 r1 => ⟨A, H0, O, en, R.to s1, ((Out.bind q1).to s1).good fun ds q2 vs H2 s2 r2 =>
    q2 (v :: vs) H2 (s1.trans s2) (.cons (Rep.move (Mv.same s2) _ _ r1) r2)⟩⟩
/-! ### displays -/
theorem x_tup {x1} (h : PA X es (aE X.K W ow am)) : PE X (.Tuple es x1 pos) (tE X.K W ow (tupE am)) :=
  PE.of (pe_tup h) fun σ H Q ⟨A, H0, O, en, R, q⟩ => ⟨A, H0, O, en, R, (Out.bind q).good fun ds q1 vs H1 s1 r1 => by
    have rl := paired_rep r1
    unfold chk at q1
    split at q1
    · rename_i z
      exact ⟨by rw [← rl.length]; exact z, fun p hp => q1 _ _ (s1.trans (new_same hp)) (new_tup rl hp)⟩
    · exact q1.elim⟩
theorem f_lst (h : PA X es (aE X.K W ow am)) : PE X (.List es pos) (tF X.K W ow (lstE am)) :=
  PE.of (pe_lst h) fun σ H Q ⟨A, H0, O, en, R, q⟩ => ⟨A, H0, O, en, R, (Out.bind q).good fun ds q1 vs H1 s1 r1 => by
    have rl := paired_rep r1
    unfold chk at q1
    split at q1
    · rename_i z
      refine ⟨by rw [← rl.length]; exact z, fun p hp => q1 p _ (s1.free hp) (s1.trans (new_same hp)) ⟨vs, upd_same, ?_⟩⟩
      refine RepL.move ⟨fun b hb => ?_, fun b o e _ => new_same hp b o e⟩ _ _ rl
      rcases hb with hb | rfl
      · exact .inl hb
      · exact .inr hp
    · exact q1.elim⟩
/-! ### subscripts -/
theorem y_idx : IxR X (r2 X.K oidx) := by
  intro value slice pins s σ H x y v u Q I rx ry ⟨A, d1, d2, d, h1, h2, ha, e, k⟩ hs
  cases d1 with
  | lst xs =>
    cases d2 <;> simp only [oidx, reduceCtorEq] at e
    rename_i i
    obtain ⟨a, vs, rfl, q, r⟩ := h1
    unfold opt at e
    split at e
    · rename_i d' he
      simp only [Res.ok.injEq] at e
      subst e
      unfold atI at he
      cases hj : ixN xs.length i with
      | none => rw [hj] at he; cases he
      | some j =>
        rw [hj] at he
        obtain ⟨w, hw, rw'⟩ := r.get (show xs[j]? = some d' from he)
        refine ix_list value slice pins s σ H _ _ v u Q I rx ry ⟨a, vs, i, w, rfl, h2, .inl q, ?_, k w H (Same.refl H) rw'⟩ hs
        unfold atI
        rw [← r.length, hj]
        exact hw
    · cases e
  | tup xs =>
    cases d2 <;> simp only [oidx, reduceCtorEq] at e
    rename_i i
    obtain ⟨a, vs, rfl, q, r⟩ := (by simpa only [RepW, Rep] using h1 : ∃ a vs, x = .ref a ∧ SqT X.K H a vs ∧ RepL X.K A H xs vs)
    unfold opt at e
    split at e
    · rename_i d' he
      simp only [Res.ok.injEq] at e
      subst e
      unfold atI at he
      cases hj : ixN xs.length i with
      | none => rw [hj] at he; cases he
      | some j =>
        rw [hj] at he
        obtain ⟨w, hw, rw'⟩ := r.get (show xs[j]? = some d' from he)
        refine ix_tup value slice pins s σ H _ _ v u Q I rx ry ⟨a, vs, i, w, rfl, h2, q, ?_, k w H (Same.refl H) rw'⟩ hs
        unfold atI
        rw [← r.length, hj]
        exact hw
    · cases e
  | str z =>
    cases d2 <;> simp only [oidx, reduceCtorEq] at e
    rename_i i
    split at e
    · rename_i hz
      have h1' : x = .str (Str.ofString z) := h1
      have h2' : y = .int i := h2
      subst h1' h2'
      unfold opt at e
      split at e
      · rename_i d' he
        simp only [Res.ok.injEq] at e
        subst e
        unfold atI at he
        cases hj : ixN z.toList.length i with
        | none => rw [hj] at he; cases he
        | some j =>
          rw [hj] at he
          have he1 : Option.map (fun c => D.str (String.ofList [c])) (z.toList[j]?) = some d' := he
          cases hc : z.toList[j]? with
          | none => rw [hc] at he1; cases he1
          | some ch =>
            rw [hc] at he1
            have he2 : D.str (String.ofList [ch]) = d' := Option.some.inj he1
            subst he2
            have e1 : (Str.ofString z).cps.toList = z.toList.map Char.toNat := by rw [Str.ofString_eq_toList]
            refine ix_str value slice pins s σ H _ _ v u Q I rx ry ⟨_, i, ch.toNat, rfl, rfl, by rw [str_len]; exact hz, ?_, ?_⟩ hs
            · unfold atI
              rw [e1, List.length_map, hj]
              show (List.map Char.toNat z.toList)[j]? = _
              rw [List.getElem?_map, hc]
              rfl
            · have e2 : Str.ofString (String.ofList [ch]) = ⟨#[ch.toNat]⟩ := by
                rw [Str.ofString_eq_toList, String.toList_ofList]
                rfl
              rw [← e2]
              exact k _ H (Same.refl H) rfl
      · cases e
    · cases e
  | dic kvs => simp only [RepW, Rep] at h1
  | _ => simp [oidx] at e
theorem n_idx : NoEx2 oidx := fun x y c fs => by
  have ho : ∀ o, opt o ≠ .exc c fs := fun o => by cases o <;> exact fun z => nomatch z
  cases x <;> cases y <;> simp only [oidx] <;> first | exact ho _ | (split <;> first | exact ho _ | exact fun z => nomatch z) | exact fun z => nomatch z
theorem x_idx (ha : PE X a (tW X.K W ow ma)) (hb : PE X b (tW X.K W ow mb)) (hs : PlainIx b := by exact fun _ _ => rfl) : PE X (.Subscript a b pos) (tE X.K W ow (bin oidx ma mb)) :=
  PE.of (pe_ix y_idx ha hb hs) fun _ _ _ h => two_of n_idx h
/-! ### slices -/
theorem RepL.cut {K : Frag} {A : AS} {H : Hp} {ds : List D} {vs : List V} (h : RepL K A H ds vs) (lo hi : Option Int) : RepL K A H (Py.cut ds lo hi) (cutV vs lo hi) := by
  unfold Py.cut cutV
  rw [h.length]
  exact (h.drop _).take _
def rS (K : Frag) : V → Option Int → Option Int → Hp → VK → Prop := fun x lo hi H Q => ∃ A d1 d, RepW K A H d1 x ∧ (∀ a, A a → H a ≠ none) ∧ oslc d1 lo hi = .ok d ∧ ∀ v H', Same H H' → Rep K A H' d v → Q v H'
theorem cut_all {α : Type} {xs : List α} {lo hi : Option Int} (h : HT.sIx xs.length 0 lo = 0 ∧ HT.sIx xs.length xs.length hi = xs.length) : Py.cut xs lo hi = xs := by
  unfold Py.cut
  rw [h.1, h.2]
  simp
theorem y_slc : SlR X (rS X.K) := by
  intro pins s σ H x v vl vu lo hi sl Q I rx hs pl' pu h
  obtain ⟨A, d1, d, h1, ha, e, k⟩ := h
  cases d1 with
  | lst xs =>
    simp only [oslc, Res.ok.injEq] at e
    subst e
    obtain ⟨a, vs, rfl, q, r⟩ := h1
    exact sl_list pins s σ H _ v vl vu lo hi sl Q I rx hs pl' pu ⟨a, vs, rfl, .inl q, fun p hp => k _ _ (new_same hp) (new_lst ha (r.cut lo hi) hp)⟩
  | tup xs =>
    simp only [oslc, Res.ok.injEq] at e
    subst e
    obtain ⟨a, vs, rfl, q, r⟩ := (by simpa only [RepW, Rep] using h1 : ∃ a vs, x = .ref a ∧ SqT X.K H a vs ∧ RepL X.K A H xs vs)
    refine sl_tupA pins s σ H _ v vl vu lo hi sl Q I rx hs pl' pu ⟨a, vs, rfl, q, fun z => ?_, fun _ p hp => k _ _ (new_same hp) (new_tup (r.cut lo hi) hp)⟩
    rw [← r.length] at z
    rw [cut_all z] at k
    exact k _ H (Same.refl H) h1
  | str z =>
    simp only [oslc] at e
    split at e
    · rename_i hz
      simp only [Res.ok.injEq] at e
      subst e
      have h1' : x = .str (Str.ofString z) := h1
      subst h1'
      refine sl_str pins s σ H _ v vl vu lo hi sl Q I rx hs pl' pu ⟨_, rfl, by rw [str_len]; exact hz, ?_⟩
      have e1 : cutS (Str.ofString z) lo hi = Str.ofString (String.ofList (Py.cut z.toList lo hi)) := by
        rw [Str.ofString_eq_toList (String.ofList _), String.toList_ofList]
        unfold cutS Py.cut
        rw [str_len]
        rw [Str.ofString_eq_toList]
        simp [List.map_take, List.map_drop, String.length_toList]
      rw [e1]
      exact k _ H (Same.refl H) rfl
    · cases e
  | _ => simp [oslc] at e
end
end Py
/-! Slices as expressions, attributes, calls of built-ins, isinstance. -/
namespace Py
open PySem L2
/-! ### own classes: what isinstance and attributes ask -/
def tyNames : List String := ["NoneType", "bool", "int", "str", "tuple", "list", "dict"]
def kitB (K : Frag) (cs : List String) : Bool :=
  cs.all fun c => (He.Fa.cls (Str.ofString c)).ok K
    && (decide (PySem.W.findIn K (.ref (ca K c)) "__class__" = some (some (.builtin "object.__class__")))
    && (decide (PySem.W.specialIn K (.builtin "object.__class__") "__get__" = some (some (.builtin "getset_descriptor.__get__")))
    && (decide (PySem.W.takesIn K (.builtin "object.__class__") = some true)
    && (decide (PySem.W.mroIn K (ca K c) (.type "object") = some true)
    && (cs.all (fun d => decide (PySem.W.kitOne K (.ref (ca K c)) (.ref (ca K d)) = some (decide (c = d))))
    && tyNames.all fun T => decide (PySem.W.kitOne K (.ref (ca K c)) (.type T) = some false) && decide (PySem.W.kitOne K (.type T) (.ref (ca K c)) = some false))))))
structure KitC (K : Frag) (cs : List String) (c : String) : Prop where
  cl : Cls K (ca K c)
  ha : PySem.W.findIn K (.ref (ca K c)) "__class__" = some (some (.builtin "object.__class__"))
  hn : PySem.W.specialIn K (.builtin "object.__class__") "__get__" = some (some (.builtin "getset_descriptor.__get__"))
  ht : PySem.W.takesIn K (.builtin "object.__class__") = some true
  hm : PySem.W.mroIn K (ca K c) (.type "object") = some true
  oo : ∀ d ∈ cs, PySem.W.kitOne K (.ref (ca K c)) (.ref (ca K d)) = some (decide (c = d))
  ob : ∀ T ∈ tyNames, PySem.W.kitOne K (.ref (ca K c)) (.type T) = some false
  bo : ∀ T ∈ tyNames, PySem.W.kitOne K (.type T) (.ref (ca K c)) = some false
def KitF (K : Frag) (cs : List String) : Prop := ∀ c ∈ cs, KitC K cs c
theorem kit_of_b {K : Frag} {cs : List String} (h : kitB K cs = true) : KitF K cs := fun c hc => by
  have h1 := List.all_eq_true.mp h c hc
  simp only [Bool.and_eq_true, decide_eq_true_eq, List.all_eq_true] at h1
  obtain ⟨a1, a2, a3, a4, a5, a6, a7⟩ := h1
  exact ⟨He.cls_ok a1, a2, a3, a4, a5, a6, fun T hT => (a7 T hT).1, fun T hT => (a7 T hT).2⟩
def tyN : Ty → String
  | .non => "NoneType" | .bl => "bool" | .int => "int" | .str => "str" | .tup => "tuple" | .lst => "list" | .dic => "dict" | .cls c => c
def tyV (K : Frag) : Ty → V
  | .cls c => .ref (ca K c)
  | t => .ty (tyN t)
def tyU (K : Frag) : Ty → Value
  | .cls c => .ref (ca K c)
  | t => .type (tyN t)
theorem ty_cls (K : Frag) (t : Ty) : ClsV (tyV K t) (tyU K t) := by
  cases t <;> first | exact .ty _ | exact .own _
theorem isI_ty (t : Ty) (d : D) (h : t ≠ .non) : isI t d = (decide (t = tyOf d) || (decide (tyOf d = .bl) && decide (t = .int))) := by
  cases d <;> cases t <;> simp [isI, tyOf] at h ⊢
theorem kit_one {K : Frag} {cs : List String} (F : KitF K cs) {t : Ty} {d : D} (h1 : inCs cs t = true) (h2 : inCs cs (tyOf d) = true) (hn : t ≠ .non) : PySem.W.kitOne K (tyU K (tyOf d)) (tyU K t) = some (isI t d) := by
  rw [isI_ty t d hn]
  cases ht : t with
  | cls c =>
    subst ht
    have hc : c ∈ cs := by simpa [inCs] using h1
    cases hd : tyOf d with
    | cls c' =>
      rw [hd] at h2
      have hc' : c' ∈ cs := by simpa [inCs] using h2
      have := (F c' hc').oo c hc
      show PySem.W.kitOne K (.ref (ca K c')) (.ref (ca K c)) = _
      rw [this]
      by_cases q : c = c'
      · subst q
        simp
      · have q2 : ¬ c' = c := fun z => q z.symm
        simp [q, q2]
    | _ =>
      show PySem.W.kitOne K (.type _) (.ref (ca K c)) = _
      rw [(F c hc).bo _ (by decide)]
      simp
  | non => exact absurd ht hn
  | _ =>
    cases hd : tyOf d with
    | cls c' =>
      rw [hd] at h2
      have hc' : c' ∈ cs := by simpa [inCs] using h2
      show PySem.W.kitOne K (.ref (ca K c')) (.type _) = _
      rw [(F c' hc').ob _ (by decide)]
      simp
    | _ => exact L2.kit_ty (by rw [← show tyN _ = _ from rfl]; decide +kernel)
theorem tyx_of {K : Frag} {cs : List String} (F : KitF K cs) {A : AS} {H : Hp} {d : D} {v : V} (h : RepW K A H d v) (h2 : inCs cs (tyOf d) = true) : TyX K H v (tyU K (tyOf d)) := by
  cases d with
  | non =>
    have h' : v = .non := h
    subst h'
    exact .base .non
  | bl b =>
    have h' : v = .bl b := h
    subst h'
    exact .base (.bl _)
  | int b =>
    have h' : v = .int b := h
    subst h'
    exact .base (.int _)
  | str b =>
    have h' : v = .str (Str.ofString b) := h
    subst h'
    exact .base (.str _)
  | tup xs =>
    obtain ⟨a, vs, rfl, q, r⟩ := (by simpa only [RepW, Rep] using h : ∃ a vs, v = .ref a ∧ SqT K H a vs ∧ RepL K A H xs vs)
    rcases q with (q | ⟨o, q⟩) | ⟨o, its, n, q1, q2, _⟩
    · exact .base (.tup q)
    · exact .fTuple q
    · exact .kTuple q1 q2
  | lst xs =>
    obtain ⟨a, vs, rfl, q, r⟩ := h
    rcases q with q | ⟨o, q⟩
    · exact .base (.lst q)
    · exact .base (.frz q)
  | dic _ => simp only [RepW, Rep] at h
  | ins c fs =>
    obtain ⟨a, dx, fvs, rfl, q, _⟩ := h
    have hc : c ∈ cs := by simpa [inCs, tyOf] using h2
    have k := F c hc
    exact .base (.ins q k.cl k.ha k.hn k.ht k.hm)
/-- isinstance(x, (t1, t2, ..)) -/
theorem n_isi {cs : List String} {ts : List Ty} : NoEx1 (oisi cs ts) := fun x c fs => by
  unfold oisi
  split <;> exact fun z => nomatch z
theorem isi_ok {cs : List String} {ts : List Ty} {d r : D} (h : oisi cs ts d = .ok r) : inCs cs (tyOf d) = true ∧ (∀ t ∈ ts, inCs cs t = true ∧ t ≠ .non) ∧ r = .bl (ts.any fun t => isI t d) := by
  unfold oisi at h
  split at h
  · rename_i c
    simp only [Bool.and_eq_true, List.all_eq_true, decide_eq_true_eq] at c
    simp only [Res.ok.injEq] at h
    exact ⟨c.1, c.2, h.symm⟩
  · cases h
theorem kit_any {K : Frag} {cs : List String} (F : KitF K cs) {d : D} (h2 : inCs cs (tyOf d) = true) : ∀ {ts : List Ty}, (∀ t ∈ ts, inCs cs t = true ∧ t ≠ .non) → PySem.W.kitAny K (tyU K (tyOf d)) (ts.map (tyU K)) = some (ts.any fun t => isI t d)
  | [], _ => rfl
  | t :: ts, h => by
    obtain ⟨a1, a2⟩ := h t (by simp)
    simp only [List.map_cons, List.any_cons]
    refine L2.kitAny_cons (kit_one F a1 h2 a2) (fun e => ?_) fun e => by rw [e]; rfl
    rw [e, Bool.false_or]
    exact kit_any F h2 fun t' h' => h t' (by simp [h'])
theorem RepL.reverse {K : Frag} {A : AS} {H : Hp} : ∀ {ds : List D} {vs : List V}, RepL K A H ds vs → RepL K A H ds.reverse vs.reverse
  | [], vs, h => by
    simp only [RepL] at h
    subst h
    simp [RepL]
  | d :: ds, vs, h => by
    simp only [RepL] at h
    obtain ⟨v, r, rfl, h1, h2⟩ := h
    simp only [List.reverse_cons]
    exact (RepL.reverse h2).append (RepL.one h1)
section
variable {X : Cx} {W : WX} {A : AS} {H0 : Base} {ow : Ow} {a b c e : Expr} {es : List Expr} {m ma mb mc : EM} {am : AM} {pos : Pos}
theorem x_isi1 {cs : List String} {t : Ty} {x : Str} {p : Pos} (hx : x = "isinstance") (F : KitF X.K cs) (hg : Gl X x) (hm : X.mg x = none) (ha : PE X a (tW X.K W ow ma)) (hb : PE X b (tC (tyV X.K t)))
    (hs : starEach [a, b] X.env = (false, eval a X.env) :: starEach [b] X.env := by rfl) (hs2 : starEach [b] X.env = [(false, eval b X.env)] := by rfl) (hpl : (backTo pos (starEach [b] X.env)).any (·.1) = false := by rfl) :
    PE X (.Call (.Name x p) [a, b] [] pos) (tE X.K W ow (un (oisi cs [t]) ma)) := by
  subst hx
  refine PE.of (pe_callB call_isi hg hm (by decide +kernel) (pa_cons ha (pa_cons hb pa_nil hs2) hs) (by decide) (by decide) hs hpl) fun σ H Q ⟨A, H0, O, en, R, q⟩ => ⟨A, H0, O, en, R, (Out.bind q).good fun d q1 v H1 s1 r1 => ?_⟩
  cases e : oisi cs [t] d with
  | exc _ _ => exact absurd e (n_isi _ _ _)
  | stuck =>
    rw [e] at q1
    exact q1.elim
  | ok r =>
    rw [e] at q1
    obtain ⟨h1, h2, rfl⟩ := isi_ok e
    obtain ⟨h3, h4⟩ := h2 t (by simp)
    refine ⟨v, tyV X.K t, tyU X.K (tyOf d), tyU X.K t, isI t d, rfl, ty_cls _ _, tyx_of F r1 h1, kit_one F h3 h1 h4, ?_⟩
    have q2 := q1 (.bl ([t].any fun t => isI t d)) H1 s1 rep_bl
    simpa using q2
/-- a tuple of classes as written -/
inductive TyL (X : Cx) : List Expr → List Ty → TA → Prop
  | nil : TyL X [] [] tNil
  | cons {e : Expr} {es : List Expr} {t : Ty} {ts : List Ty} {r : TA} (h : PE X e (tC (tyV X.K t))) (k : TyL X es ts r) (hs : starEach (e :: es) X.env = (false, eval e X.env) :: starEach es X.env) : TyL X (e :: es) (t :: ts) (tCons (tC (tyV X.K t)) r)
theorem TyL.pa {es : List Expr} {ts : List Ty} {r : TA} (h : TyL X es ts r) : PA X es r := by
  induction h with
  | nil => exact pa_nil
  | cons h _ hs ih => exact pa_cons h ih hs
theorem TyL.run {es : List Expr} {ts : List Ty} {r : TA} (h : TyL X es ts r) : ∀ {σ : L2.St} {H : Hp} {Q : List V → Hp → Prop}, Q (ts.map (tyV X.K)) H → r σ H Q := by
  induction h with
  | nil => exact fun q => q
  | cons h _ hs ih => exact fun q => ih (Q := fun xs H2 => _) q
theorem ty_all (K : Frag) : ∀ ts : List Ty, Paired ClsV (ts.map (tyV K)) (ts.map (tyU K))
  | [] => .nil
  | t :: ts => .cons (ty_cls K t) (ty_all K ts)
theorem x_isiT {cs : List String} {ts : List Ty} {r : TA} {x : Str} {p tp : Pos} {tk} (hx : x = "isinstance") (F : KitF X.K cs) (hg : Gl X x) (hm : X.mg x = none) (ha : PE X a (tW X.K W ow ma)) (hb : TyL X es ts r) (hz : ts.length ≤ 20)
    (hs : starEach [a, .Tuple es tk tp] X.env = (false, eval a X.env) :: starEach [.Tuple es tk tp] X.env := by rfl) (hs2 : starEach [.Tuple es tk tp] X.env = [(false, eval (.Tuple es tk tp) X.env)] := by rfl) (hpl : (backTo pos (starEach [.Tuple es tk tp] X.env)).any (·.1) = false := by rfl) :
    PE X (.Call (.Name x p) [a, .Tuple es tk tp] [] pos) (tE X.K W ow (un (oisi cs ts) ma)) := by
  subst hx
  refine PE.of (pe_callB call_isiT hg hm (by decide +kernel) (pa_cons ha (pa_cons (pe_tup hb.pa) pa_nil hs2) hs) (by decide) (by decide) hs hpl) fun σ H Q ⟨A, H0, O, en, R, q⟩ => ⟨A, H0, O, en, R, (Out.bind q).good fun d q1 v H1 s1 r1 => ?_⟩
  cases e : oisi cs ts d with
  | exc _ _ => exact absurd e (n_isi _ _ _)
  | stuck =>
    rw [e] at q1
    exact q1.elim
  | ok r =>
    rw [e] at q1
    obtain ⟨h1, h2, rfl⟩ := isi_ok e
    refine hb.run ⟨by rw [List.length_map]; exact Nat.le_trans hz (by decide), fun p hp => ?_⟩
    exact ⟨v, p, ts.map (tyV X.K), tyU X.K (tyOf d), ts.map (tyU X.K), _, rfl, upd_same, ty_all _ _, tyx_of F (r1.move (new_same hp)) h1, kit_any F h1 h2, q1 _ _ (s1.trans (new_same hp)) rep_bl⟩
/-! ### attributes -/
theorem x_attr {cs : List String} {f : String} (F : ∀ c ∈ cs, Cls X.K (ca X.K c) ∧ NoAttr X.K (ca X.K c) (Str.ofString f)) (ha : PE X a (tW X.K W ow ma))
    (hb : attributeBase a (Str.ofString f) X.env (eval a X.env) = eval a X.env := by rfl) : PE X (.Attribute a (Str.ofString f) pos) (tE X.K W ow (un (oattr cs f) ma)) :=
  PE.of (pe_fld ha hb) fun σ H Q ⟨A, H0, O, en, R, q⟩ => ⟨A, H0, O, en, R, (Out.bind q).good fun d q1 v H1 s1 r1 => by
    cases d with
    | ins c fs =>
      simp only [oattr] at q1
      split at q1
      · rename_i hc
        obtain ⟨h1, h2⟩ := F c (by simpa using hc)
        obtain ⟨p, dx, fvs, rfl, q2, r2⟩ := r1
        have lk := r2.look (f := f)
        cases hl : fs.lookup f with
        | none =>
          rw [hl] at q1
          exact q1.elim
        | some d' =>
          rw [hl] at q1 lk
          obtain ⟨v', e1, r'⟩ := lk
          exact ⟨p, _, dx, fvs, v', rfl, q2, h1, h2, e1, q1 v' H1 s1 r'⟩
      · exact q1.elim
    | _ => exact q1.elim⟩
/-! ### slices -/
/-- a part of a slice -/
def tO (K : Frag) (W : WX) (ow : Ow) (m : Option EM) : TO := fun σ H Q => ∃ A H0 O e, ER K A H0 ow O σ H e ∧
  Out (slc.bnd m e) (fun o => ∀ H', Same H H' → Q o H') (badE K W A O σ H)
theorem o_none : PO X none (tO X.K W ow none) := ⟨fun pins s σ H Q I ⟨A, H0, O, en, R, q⟩ => po_none.run pins s σ H Q I (q H (Same.refl H))⟩
theorem o_some (h : PE X e (tE X.K W ow m)) : PO X (some e) (tO X.K W ow (some m)) := ⟨fun pins s σ H Q I ⟨A, H0, O, en, R, q⟩ => (po_some h).run pins s σ H Q I ⟨A, H0, O, en, R, (Out.bind q).good fun d q1 v H1 s1 r1 => by
  cases d with
  | int i => exact ⟨i, r1, q1 H1 s1⟩
  | _ => exact q1.elim⟩⟩
theorem x_slc {lo hi : Option Expr} {ml mh : Option EM} {p2 : Pos} (ha : PE X a (tW X.K W ow ma)) (hl : PO X lo (tO X.K W ow ml)) (hh : PO X hi (tO X.K W ow mh)) : PE X (.Subscript a (.Slice lo hi none p2) pos) (tE X.K W ow (slc ma ml mh)) :=
  PE.of (pe_slice y_slc ha hl hh) fun σ H Q ⟨A, H0, O, en, R, q⟩ => ⟨A, H0, O, en, R, (Out.bind q).good fun d q1 v H1 s1 r1 => ⟨A, H0, O, en, R.to s1, ((Out.bind q1).to s1).good fun i q2 H2 s2 => ⟨A, H0, O, en, (R.to s1).to s2, ((Out.bind q2).to (s1.trans s2)).good fun j q3 H3 s3 => by
    cases e : oslc d i j with
    | ok z =>
      rw [e] at q3
      exact ⟨_, d, z, r1.move (s2.trans s3), (((R.to s1).to s2).to s3).there, e, fun v' H' s' r' => q3 v' H' (((s1.trans s2).trans s3).trans s') r'⟩
    | exc c fs =>
      exfalso
      cases d <;> simp only [oslc, reduceCtorEq] at e
      split at e <;> cases e
    | stuck =>
      rw [e] at q3
      exact q3.elim⟩⟩⟩
/-! ### built-in calls -/
def c1 (K : Frag) (f : D → Res D) : List V → Hp → VK → Prop := fun vs H Q => ∃ x, vs = [x] ∧ r1 K f x H Q
def c2 (K : Frag) (f : D → D → Res D) : List V → Hp → VK → Prop := fun vs H Q => ∃ x y, vs = [x, y] ∧ r2 K f x y H Q
theorem cimp {f : Value} {r r' : List V → Hp → VK → Prop} (h : CallR X f r) (k : ∀ x H Q, r' x H Q → r x H Q) : CallR X f r' := fun pins s σ H xs us Q I rx q => h pins s σ H xs us Q I rx (k xs H Q q)
theorem x_b1 {id : String} {x : Str} {p : Pos} {f : D → Res D} (hc : CallR X (.builtin id) (c1 X.K f)) (hf : NoEx1 f) (hg : Gl X x) (hm : X.mg x = none) (hv : bootBuiltins x = some (.builtin id)) (ha : PE X a (tW X.K W ow ma)) (hn : x ≠ "__name__" := by decide) (hdb : (x == ("__debug__" : Str)) = false := by decide)
    (hs : starEach [a] X.env = [(false, eval a X.env)] := by rfl) : PE X (.Call (.Name x p) [a] [] pos) (tE X.K W ow (un f ma)) :=
  PE.of (pe_callB hc hg hm hv (pa_cons ha pa_nil hs) hn hdb hs (by rfl)) fun σ H Q h => by
    obtain ⟨A, H0, O, en, R, q⟩ := one_of hf h
    exact ⟨A, H0, O, en, R, q.good fun d k v H' s r => ⟨v, rfl, k v H' s r⟩⟩
theorem x_t1 {id : String} {x : Str} {p : Pos} {f : D → Res D} (hc : CallR X (.type id) (c1 X.K f)) (hf : NoEx1 f) (hg : Gl X x) (hm : X.mg x = none) (hv : bootBuiltins x = some (.type id)) (ha : PE X a (tW X.K W ow ma)) (hn : x ≠ "__name__" := by decide) (hdb : (x == ("__debug__" : Str)) = false := by decide)
    (hs : starEach [a] X.env = [(false, eval a X.env)] := by rfl) : PE X (.Call (.Name x p) [a] [] pos) (tE X.K W ow (un f ma)) :=
  PE.of (pe_callTy hc hg hm hv (pa_cons ha pa_nil hs) hn hdb hs (by rfl)) fun σ H Q h => by
    obtain ⟨A, H0, O, en, R, q⟩ := one_of hf h
    exact ⟨A, H0, O, en, R, q.good fun d k v H' s r => ⟨v, rfl, k v H' s r⟩⟩
theorem x_b2 {id : String} {x : Str} {p : Pos} {f : D → D → Res D} (hc : CallR X (.builtin id) (c2 X.K f)) (hf : NoEx2 f) (hg : Gl X x) (hm : X.mg x = none) (hv : bootBuiltins x = some (.builtin id)) (ha : PE X a (tW X.K W ow ma)) (hb : PE X b (tW X.K W ow mb)) (hn : x ≠ "__name__" := by decide) (hdb : (x == ("__debug__" : Str)) = false := by decide)
    (hs : starEach [a, b] X.env = (false, eval a X.env) :: starEach [b] X.env := by rfl) (hs2 : starEach [b] X.env = [(false, eval b X.env)] := by rfl) (hpl : (backTo pos (starEach [b] X.env)).any (·.1) = false := by rfl) : PE X (.Call (.Name x p) [a, b] [] pos) (tE X.K W ow (bin f ma mb)) :=
  PE.of (pe_callB hc hg hm hv (pa_cons ha (pa_cons hb pa_nil hs2) hs) hn hdb hs hpl) fun σ H Q h => by
    obtain ⟨A, H0, O, en, R, q⟩ := two_of hf h
    refine ⟨A, H0, O, en, R, q.good fun d k v H' s r => ?_⟩
    obtain ⟨A2, H02, O2, en2, R2, q2⟩ := k v H' s r
    exact ⟨A2, H02, O2, en2, R2, q2.good fun d2 k2 v2 H2 s2 r2' => ⟨v, v2, rfl, k2 v2 H2 s2 r2'⟩⟩
theorem v_len : CallR X (.builtin "len") (c1 X.K blen) := cimp call_len fun xs H Q ⟨x, e0, A, d1, d, h1, _, e, k⟩ => by
  subst e0
  cases d1 with
  | str s =>
    simp only [blen] at e
    split at e
    · rename_i hz
      simp only [Res.ok.injEq] at e
      subst e
      have h' : x = .str (Str.ofString s) := h1
      subst h'
      exact ⟨_, s.length, rfl, ⟨by rw [str_len]; exact hz, (str_len s).symm⟩, k _ H (Same.refl H) (flat_rep rfl _ _)⟩
    · cases e
  | tup xs =>
    simp only [blen, Res.ok.injEq] at e
    subst e
    obtain ⟨a, vs, rfl, q, r⟩ := (by simpa only [RepW, Rep] using h1 : ∃ a vs, x = .ref a ∧ SqT X.K H a vs ∧ RepL X.K A H xs vs)
    refine ⟨_, xs.length, rfl, .inr ⟨vs, q, r.length⟩, k _ H (Same.refl H) (flat_rep rfl _ _)⟩
  | lst xs =>
    simp only [blen, Res.ok.injEq] at e
    subst e
    obtain ⟨a, vs, rfl, q, r⟩ := h1
    refine ⟨_, xs.length, rfl, .inl ⟨vs, .inl q, r.length⟩, k _ H (Same.refl H) (flat_rep rfl _ _)⟩
  | dic kvs => simp only [RepW, Rep] at h1
  | _ => simp [blen] at e
theorem n_len : NoEx1 blen := fun x c fs => by
  cases x <;> simp only [blen] <;> first | (split <;> exact fun z => nomatch z) | exact fun z => nomatch z
theorem v_int : CallR X (.type "int") (c1 X.K bint) := cimp call_int1 fun xs H Q ⟨x, e0, A, d1, d, h1, _, e, k⟩ => by
  subst e0
  cases d1 with
  | int i =>
    simp only [bint, Res.ok.injEq] at e
    subst e
    have h' : x = .int i := h1
    subst h'
    exact .inl ⟨i, rfl, k _ H (Same.refl H) (flat_rep rfl _ _)⟩
  | bl b =>
    simp only [bint, Res.ok.injEq] at e
    subst e
    have h' : x = .bl b := h1
    subst h'
    exact .inr ⟨b, rfl, k _ H (Same.refl H) (flat_rep rfl _ _)⟩
  | _ => simp [bint] at e
theorem n_int : NoEx1 bint := fun x c fs => by cases x <;> exact fun z => nomatch z
theorem v_tuple : CallR X (.type "tuple") (c1 X.K btuple) := cimp call_tuple_of fun xs H Q ⟨x, e0, A, d1, d, h1, ha, e, k⟩ => by
  subst e0
  cases d1 with
  | lst xs =>
    simp only [btuple, Res.ok.injEq] at e
    subst e
    obtain ⟨a, vs, rfl, q, r⟩ := h1
    exact ⟨a, vs, rfl, .inl ⟨.inl q, fun l hl => k _ _ (new_same hl) (new_tup r hl)⟩⟩
  | tup xs =>
    simp only [btuple, Res.ok.injEq] at e
    subst e
    obtain ⟨a, vs, rfl, q, r⟩ := (by simpa only [RepW, Rep] using h1 : ∃ a vs, x = .ref a ∧ SqT X.K H a vs ∧ RepL X.K A H xs vs)
    exact ⟨a, vs, rfl, .inr ⟨q, k _ H (Same.refl H) h1⟩⟩
  | _ => simp [btuple] at e
theorem n_tuple : NoEx1 btuple := fun x c fs => by cases x <;> exact fun z => nomatch z
theorem ints_of {K : Frag} {A : AS} {H : Hp} : ∀ {ds : List D} {vs : List V} {is : List Int}, RepL K A H ds vs → intsOf ds = some is → vs = is.map V.int
  | [], vs, is, h, e => by
    simp only [RepL] at h
    simp only [intsOf, Option.some.injEq] at e
    subst h e
    rfl
  | d :: ds, vs, is, h, e => by
    simp only [RepL] at h
    obtain ⟨v, r, rfl, h1, h2⟩ := h
    cases d with
    | int i =>
      simp only [intsOf] at e
      cases q : intsOf ds with
      | none => rw [q] at e; cases e
      | some js =>
        rw [q] at e
        have e2 : i :: js = is := Option.some.inj e
        subst e2
        have h1' : v = .int i := h1
        rw [h1', ints_of h2 q]
        rfl
    | _ => simp [intsOf] at e
theorem bools_of {K : Frag} {A : AS} {H : Hp} : ∀ {ds : List D} {vs : List V} {is : List Bool}, RepL K A H ds vs → boolsOf ds = some is → vs = is.map V.bl
  | [], vs, is, h, e => by
    simp only [RepL] at h
    simp only [boolsOf, Option.some.injEq] at e
    subst h e
    rfl
  | d :: ds, vs, is, h, e => by
    simp only [RepL] at h
    obtain ⟨v, r, rfl, h1, h2⟩ := h
    cases d with
    | bl i =>
      simp only [boolsOf] at e
      cases q : boolsOf ds with
      | none => rw [q] at e; cases e
      | some js =>
        rw [q] at e
        have e2 : i :: js = is := Option.some.inj e
        subst e2
        have h1' : v = .bl i := h1
        rw [h1', bools_of h2 q]
        rfl
    | _ => simp [boolsOf] at e
theorem v_sum (hc : X.calm = true) : CallR X (.builtin "sum") (c1 X.K bsum) := cimp (cr_sum hc) fun xs H Q ⟨x, e0, A, d1, d, h1, ha, e, k⟩ => by
  subst e0
  cases d1 with
  | lst xs =>
    simp only [bsum] at e
    split at e
    · rename_i is hi
      simp only [Res.ok.injEq] at e
      subst e
      obtain ⟨a, vs, rfl, q, r⟩ := h1
      have e1 := ints_of r hi
      subst e1
      exact ⟨a, is, rfl, .inl q, k _ H (Same.refl H) (flat_rep rfl _ _)⟩
    · cases e
  | _ => simp [bsum] at e
theorem v_all (hc : X.calm = true) : CallR X (.builtin "all") (c1 X.K ball) := cimp (cr_all hc) fun xs H Q ⟨x, e0, A, d1, d, h1, ha, e, k⟩ => by
  subst e0
  cases d1 with
  | lst xs =>
    simp only [ball] at e
    split at e
    · rename_i is hi
      simp only [Res.ok.injEq] at e
      subst e
      obtain ⟨a, vs, rfl, q, r⟩ := h1
      have e1 := bools_of r hi
      subst e1
      exact ⟨a, is, rfl, .inl q, k _ H (Same.refl H) (flat_rep rfl _ _)⟩
    · cases e
  | _ => simp [ball] at e
theorem n_sum : NoEx1 bsum := fun x c fs => by
  cases x <;> simp only [bsum] <;> first | (split <;> exact fun z => nomatch z) | exact fun z => nomatch z
theorem n_all : NoEx1 ball := fun x c fs => by
  cases x <;> simp only [ball] <;> first | (split <;> exact fun z => nomatch z) | exact fun z => nomatch z
theorem v_min2 (hc : X.calm = true) : CallR X (.builtin "min") (c2 X.K bmin2) := cimp (call_min2 hc) fun xs H Q ⟨x, y, e0, A, d1, d2, d, h1, h2, ha, e, k⟩ => by
  subst e0
  cases d1 <;> cases d2 <;> simp only [bmin2, Res.ok.injEq, reduceCtorEq] at e
  subst e
  rename_i i j
  exact ⟨i, j, by rw [rep_int h1, rep_int h2], k _ H (Same.refl H) (flat_rep rfl _ _)⟩
theorem n_min2 : NoEx2 bmin2 := fun x y c fs => by cases x <;> cases y <;> exact fun z => nomatch z
theorem x_bits {apos : Pos} (ha : PE X a (tW X.K W ow ma)) (hbase : attributeBase a "bit_length" X.env (eval a X.env) = eval a X.env := by rfl) (hline : (apos.endLine == pos.line) = true := by rfl) : PE X (.Call (.Attribute a "bit_length" apos) [] [] pos) (tE X.K W ow (un bbits ma)) :=
  PE.of (pe_bits ha hbase hline) fun σ H Q ⟨A, H0, O, en, R, q⟩ => ⟨A, H0, O, en, R, (Out.bind q).good fun d q1 v H1 s1 r1 => by
    cases d with
    | int i => exact ⟨i, r1, q1 _ H1 s1 (flat_rep rfl _ _)⟩
    | _ => exact q1.elim⟩
/-- list(x) as a new list -/
theorem f_list {x : Str} {p : Pos} (hx : x = "list") (hg : Gl X x) (hm : X.mg x = none) (ha : PE X a (tW X.K W ow ma)) (hs : starEach [a] X.env = [(false, eval a X.env)] := by rfl) : PE X (.Call (.Name x p) [a] [] pos) (tF X.K W ow (un blist ma)) := by
  subst hx
  refine PE.of (pe_callTy call_list_of hg hm (by decide +kernel) (pa_cons ha pa_nil hs) (by decide) (by decide) hs (by rfl)) fun σ H Q ⟨A, H0, O, en, R, q⟩ => ⟨A, H0, O, en, R, (Out.bind q).good fun d q1 v H1 s1 r1 => ?_⟩
  cases d with
  | lst xs =>
    obtain ⟨a, vs, rfl, q, r⟩ := r1
    exact ⟨a, vs, rfl, .inl (.inl q), fun l hl => q1 l _ (s1.free hl) (s1.trans (new_same hl)) ⟨vs, upd_same, RepL.move ⟨fun b hb => hb.elim .inl fun z => by subst z; exact .inr hl, fun b o e _ => new_same hl b o e⟩ _ _ r⟩⟩
  | tup xs =>
    obtain ⟨a, vs, rfl, q, r⟩ := (by simpa only [RepW, Rep] using r1 : ∃ a vs, v = .ref a ∧ SqT X.K H1 a vs ∧ RepL X.K (AO A O) H1 xs vs)
    exact ⟨a, vs, rfl, .inr q, fun l hl => q1 l _ (s1.free hl) (s1.trans (new_same hl)) ⟨vs, upd_same, RepL.move ⟨fun b hb => hb.elim .inl fun z => by subst z; exact .inr hl, fun b o e _ => new_same hl b o e⟩ _ _ r⟩⟩
  | _ => exact q1.elim
end
end Py
/-! What is walked, targets, comprehensions. -/
namespace Py
open PySem L2
/-- J gives the data xs, one a turn, as long as the heap moves so -/
def Itm (M : AS → Hp → AS → Hp → Prop) (K : Frag) (A : AS) (J : It) (xs : List D) (H : Hp) : Prop := ∀ i A2 H2, M A H A2 H2 →
  (i < xs.length → J.go i H2 ∧ ∀ x H3, J.yld i H2 x H3 → Same H2 H3 ∧ ∃ d, xs[i]? = some d ∧ Rep K A2 H3 d x) ∧ (i = xs.length → J.stop i H2)
/-- .. as it only grows -/
def Gr (A : AS) (H : Hp) (A' : AS) (H' : Hp) : Prop := (∀ a, A' a → A a ∨ H a = none) ∧ Same H H'
theorem Gr.mv {A A' : AS} {H H' : Hp} (h : Gr A H A' H') : Mv A H A' H' := ⟨h.1, fun a o e _ => h.2 a o e⟩
abbrev MvT := AS → Hp → AS → Hp → Prop
theorem Itm.gr {K : Frag} {A : AS} {J : It} {xs : List D} {H : Hp} (h : Itm Mv K A J xs H) : Itm Gr K A J xs H := fun i A2 H2 m => h i A2 H2 m.mv
def tI (M : MvT) (K : Frag) (W : WX) (ow : Ow) (m : IM) : TI := fun σ H R => ∃ A H0 O e, ER K A H0 ow O σ H e ∧
  Out (m e) (fun xs => ∀ J H', Same H H' → Itm M K (AO A O) J xs H' → R J H') (badE K W A O σ H)
theorem PI.of {X : Cx} {tg iter : Expr} {t t' : TI} (h : PI X tg iter t) (k : ∀ σ H R, t' σ H R → t σ H R) : PI X tg iter t' := ⟨fun pins s σ H R I q => h.run pins s σ H R I (k σ H R q)⟩
section
variable {X : Cx} {W : WX} {A : AS} {H0 : Base} {ow : Ow} {tg a b c e : Expr} {es : List Expr} {m ma mb mc : EM} {am : AM} {pos p : Pos}
/-- a list or a tuple -/
theorem pi_either {l : Expr} {tl : TE} (hl : PE X l tl) : PI X tg l (fun σ H R => tl σ H fun x H1 => ∃ a, x = .ref a ∧ ((∃ xs, SqL X.K H1 a xs ∧ R (Itl X.K a) H1) ∨ ∃ xs, SqT X.K H1 a xs ∧ R (Itt X.K a) H1)) := by
  refine ⟨fun pins s σ H R I h => ?_⟩
  refine thn (hl.run pins s σ H _ I h) fun v s1 ⟨x, H1, I1, r1, q1⟩ => ?_
  obtain ⟨a, e, q⟩ := q1
  subst e
  cases r1
  have fin : ∀ b ∈ [s1.heap.objs.size], FpOk X pins H1 b := fun b hb => by
    have e : b = s1.heap.objs.size := by simpa using hb
    subst e
    exact I1.fpOk (Nat.le_refl _) (I1.hok.fresh (Nat.le_refl _))
  rcases q with ⟨xs, hq, q⟩ | ⟨xs, hq, q⟩
  · obtain ⟨its, rv, p, hz⟩ := I1.list hq
    refine wpAny_pyIter_list p.isList ?_
    exact ⟨s1.heap.objs.size, [s1.heap.objs.size], _, _, H1, rfl, I1.kept (t' := s1.toks) fun b o e => Heap.get?_push_of_some _ e, turn_list a _, ⟨_, Heap.get?_push_size _ rfl, rfl, rfl⟩, fin, q⟩
  · obtain ⟨its, rv, p, hz⟩ := I1.tuple hq
    refine wpAny_pyIter_tuple (show s1.heap.IsTuple a its.toArray from p) ?_
    exact ⟨s1.heap.objs.size, [s1.heap.objs.size], _, _, H1, rfl, I1.kept (t' := s1.toks) fun b o e => Heap.get?_push_of_some _ e, turn_tuple a _, ⟨_, Heap.get?_push_size _ rfl, rfl, rfl⟩, fin, q⟩
theorem itm_tup {K : Frag} {A : AS} {H : Hp} {a : Addr} {ds : List D} {vs : List V} (q : SqT K H a vs) (r : RepL K A H ds vs) : Itm Mv K A (Itt K a) ds H := fun i A2 H2 m => by
  have q2 := SqT.move m q
  have r2 := RepL.move m ds vs r
  refine ⟨fun hi => ?_, fun hi => ⟨vs, q2, by rw [← r.length]; exact Nat.le_of_eq hi.symm⟩⟩
  obtain ⟨v, hv, rv⟩ := r2.get (i := i) (List.getElem?_eq_getElem hi)
  refine ⟨⟨vs, v, q2, hv⟩, fun x H3 ⟨e, k⟩ => ?_⟩
  subst e
  have := k vs q2
  rw [hv] at this
  cases this
  exact ⟨Same.refl _, _, List.getElem?_eq_getElem hi, rv⟩
theorem itm_lst {M : MvT} {K : Frag} {A : AS} {H : Hp} {a : Addr} {ds : List D} {vs : List V} (hM : ∀ A2 H2, M A H A2 H2 → Mv A H A2 H2 ∧ Rd H2 a (.lst vs)) (r : RepL K A H ds vs) : Itm M K A (Itl K a) ds H := fun i A2 H2 m => by
  obtain ⟨mv, rd⟩ := hM A2 H2 m
  have q2 : SqL K H2 a vs := .inl rd
  have r2 := RepL.move mv ds vs r
  refine ⟨fun hi => ?_, fun hi => ⟨vs, q2, by rw [← r.length]; exact Nat.le_of_eq hi.symm⟩⟩
  obtain ⟨v, hv, rv⟩ := r2.get (i := i) (List.getElem?_eq_getElem hi)
  refine ⟨⟨vs, v, q2, hv⟩, fun x H3 ⟨e, k⟩ => ?_⟩
  subst e
  have := k vs q2
  rw [hv] at this
  cases this
  exact ⟨Same.refl _, _, List.getElem?_eq_getElem hi, rv⟩
/-- for a for: a clean list or tuple -/
theorem i_seq (ha : PE X a (tE X.K W ow ma)) : PI X tg a (tI Mv X.K W ow (iseq ma)) :=
  PI.of (pi_either ha) fun σ H R' ⟨A, H0, O, en, R, q⟩ => ⟨A, H0, O, en, R, (Out.bind q).good fun d q1 v H1 s1 r1 => by
    cases d with
    | lst xs =>
      obtain ⟨p, vs, rfl, n, h, r⟩ := (by simpa only [Rep] using r1 : ∃ a vs, v = .ref a ∧ ¬ AO A O a ∧ Rd H1 a (.lst vs) ∧ RepL X.K (AO A O) H1 xs vs)
      exact ⟨p, rfl, .inl ⟨vs, .inl h, q1 _ H1 s1 (itm_lst (fun A2 H2 m => ⟨m, (Rd.move m h n).1⟩) r)⟩⟩
    | tup xs =>
      obtain ⟨p, vs, rfl, h, r⟩ := (by simpa only [Rep] using r1 : ∃ a vs, v = .ref a ∧ SqT X.K H1 a vs ∧ RepL X.K (AO A O) H1 xs vs)
      exact ⟨p, rfl, .inr ⟨vs, h, q1 _ H1 s1 (itm_tup h r)⟩⟩
    | _ => exact q1.elim⟩
theorem i_gr {it : IM} (h : PI X tg a (tI Mv X.K W ow it)) : PI X tg a (tI Gr X.K W ow it) :=
  PI.of h fun σ H R' ⟨A, H0, O, en, R, q⟩ => ⟨A, H0, O, en, R, q.good fun xs k J H' s i => k J H' s i.gr⟩
theorem itm_range {K : Frag} {A : AS} {H : Hp} {lo hi : Int} : Itm Mv K A (Itr lo (hi - lo).toNat) (rngL lo hi) H := fun i A2 H2 m => by
  have hl : (rngL lo hi).length = (hi - lo).toNat := by unfold rngL; simp
  rw [hl]
  refine ⟨fun h => ⟨h, fun x H3 ⟨e1, e2⟩ => ?_⟩, fun h => Nat.le_of_eq h.symm⟩
  subst e1 e2
  refine ⟨Same.refl _, .int (lo + (i : Nat)), ?_, rfl⟩
  unfold rngL
  rw [List.getElem?_map, List.getElem?_range h]
  rfl
theorem nb62 {n : Int} (h : n.natAbs < B62) : -(2 : Int) ^ 62 ≤ n ∧ n < 2 ^ 62 := by
  have e : (2 : Int) ^ 62 = 4611686018427387904 := by decide
  rw [e]
  unfold B62 at h
  omega
theorem rng1_of {σ : L2.St} {H : Hp} {R' : It → Hp → Prop} (h : tI Mv X.K W ow (irng1 ma) σ H R') : iRng1 (tCons (tE X.K W ow ma) tNil) σ H R' := by
  obtain ⟨A, H0, O, en, R, q⟩ := h
  refine ⟨A, H0, O, en, R, (Out.bind q).good fun d q1 v H1 s1 r1 => ?_⟩
  cases d with
  | int n =>
    simp only at q1
    split at q1
    · rename_i z
      have r1' : v = .int n := r1
      subst r1'
      refine ⟨n, rfl, (nb62 z).1, (nb62 z).2, ?_⟩
      have k := q1 (Itr 0 (n - 0).toNat) H1 s1 itm_range
      have e : n - 0 = n := Int.sub_zero n
      rw [e] at k
      exact k
    · exact q1.elim
  | _ => exact q1.elim
theorem i_rng1 (hg : Gl X "range") (hm : X.mg "range" = none) (ha : PE X a (tE X.K W ow ma)) (hs : starEach [a] X.env = [(false, eval a X.env)] := by rfl) : PI X tg (.Call (.Name "range" p) [a] [] pos) (tI Mv X.K W ow (irng1 ma)) :=
  PI.of (pi_range1 hg hm (pa_cons ha pa_nil hs) hs) fun σ H R' h => rng1_of h
/-! ### targets -/
/-- a target: ts are the slots that it sets -/
def tGt (K : Frag) (ow : Ow) (ts : List Nat) (g : GM) : TG := fun v σ H Q => ∃ A H0 O e d e', ER K A H0 ow O σ H e ∧ Rep K (AO A O) H d v ∧ g d e = some e' ∧
  ∀ σ', ER K A H0 ow O σ' H e' → σ'.length = σ.length → (∀ j, j ∉ ts → σ'[j]? = σ[j]?) → Q σ' H
theorem PG.of {tg : Expr} {t t' : TG} (h : PG X tg t) (k : ∀ v σ H Q, t' v σ H Q → t v σ H Q) : PG X tg t' := ⟨fun pins s σ H v u Q I r q => h.run pins s σ H v u Q I r (k v σ H Q q)⟩
theorem g_nm {i : Nat} (h : PG X tg (gName i)) (hi : ow i = false) : PG X tg (tGt X.K ow [i] (gnm i)) :=
  PG.of h fun v σ H Q ⟨A, H0, O, en, d, e', R, r, g, q⟩ => by
    cases g
    exact q _ (R.set hi r) (by simp) fun j hj => by
      have : i ≠ j := fun z => hj (by simp [z])
      rw [List.getElem?_set_ne this]
def tGts (K : Frag) (ow : Ow) (ts : List Nat) (gs : List GM) : TGs := fun vs σ H Q => ∃ A H0 O e ds e', ER K A H0 ow O σ H e ∧ RepL K (AO A O) H ds vs ∧ gtupL gs ds e = some e' ∧
  ∀ σ', ER K A H0 ow O σ' H e' → σ'.length = σ.length → (∀ j, j ∉ ts → σ'[j]? = σ[j]?) → Q σ' H
theorem PGs.of {tg : List Expr} {t t' : TGs} (h : PGs X tg t) (k : ∀ v σ H Q, t' v σ H Q → t v σ H Q) : PGs X tg t' := ⟨fun pins s σ H v u Q I r q => h.run pins s σ H v u Q I r (k v σ H Q q)⟩
theorem gs_nil : PGs X [] (tGts X.K ow [] []) := PGs.of pgs_nil fun vs σ H Q ⟨A, H0, O, en, ds, e', R, r, g, q⟩ => by
  cases ds with
  | nil =>
    simp only [RepL] at r
    subst r
    cases g
    exact ⟨rfl, q σ R rfl fun _ _ => rfl⟩
  | cons d ds => cases g
theorem gs_cons {ts us : List Nat} {g : GM} {gs : List GM} (h1 : PG X e (tGt X.K ow ts g)) (h2 : PGs X es (tGts X.K ow us gs))
    (hs : (assignEach (e :: es) X.env).map (·.2) = assign e X.env :: (assignEach es X.env).map (·.2) := by rfl) : PGs X (e :: es) (tGts X.K ow (ts ++ us) (g :: gs)) :=
  PGs.of (pgs_cons h1 h2 hs) fun vs σ H Q ⟨A, H0, O, en, ds, e', R, r, ge, q⟩ => by
    cases ds with
    | nil => cases ge
    | cons d ds =>
      simp only [RepL] at r
      obtain ⟨v, r', rfl, r1, r2⟩ := r
      simp only [gtupL] at ge
      cases e1 : g d en with
      | none => rw [e1] at ge; cases ge
      | some en1 =>
        rw [e1] at ge
        refine ⟨v, r', rfl, A, H0, O, en, d, en1, R, r1, e1, fun σ1 R1 l1 k1 => ⟨A, H0, O, en1, ds, e', R1, r2, ge, fun σ2 R2 l2 k2 => q σ2 R2 (l2.trans l1) fun j hj => ?_⟩⟩
        rw [k2 j fun z => hj (by simp [z]), k1 j fun z => hj (by simp [z])]
theorem gtupL_len : ∀ {gs : List GM} {ds : List D} {e e' : Env}, gtupL gs ds e = some e' → ds.length = gs.length
  | [], [], _, _, _ => rfl
  | [], _ :: _, _, _, h => by cases h
  | _ :: _, [], _, _, h => by cases h
  | g :: gs, d :: ds, e, e', h => by
    simp only [gtupL] at h
    cases e1 : g d e with
    | none => rw [e1] at h; cases h
    | some e2 =>
      rw [e1] at h
      simp only [List.length_cons]
      rw [gtupL_len (show gtupL gs ds e2 = some e' from h)]
theorem g_tup {ts : List Nat} {gs : List GM} {n k : Nat} (hc : X.calm = true) (h : PGs X es (tGts X.K ow ts gs)) (hn : (assignEach es X.env).length = n := by rfl) (hl : gs.length = n := by rfl)
    (hst : (assignEach es X.env).findIdx? (·.1) = none := by rfl) : PG X (.Tuple es k pos) (tGt X.K ow ts (gtup gs)) :=
  PG.of (pg_tup hc h hn hst) fun v σ H Q ⟨A, H0, O, en, d, e', R, r, g, q⟩ => by
    cases d with
    | tup xs =>
      obtain ⟨a, vs, rfl, h, r⟩ := (by simpa only [Rep] using r : ∃ a vs, v = .ref a ∧ SqT X.K H a vs ∧ RepL X.K (AO A O) H xs vs)
      exact ⟨a, vs, rfl, h, by rw [← r.length, ← hl]; exact gtupL_len g, A, H0, O, en, xs, e', R, r, g, q⟩
    | _ => cases g
/-! ### comprehensions -/
abbrev W0 : WX := fun _ _ _ _ => False
theorem wipe_eq : ∀ {vs : List Nat} {σ σ' : L2.St}, σ'.length = σ.length → (∀ j, j ∉ vs → σ'[j]? = σ[j]?) → L2.wipe σ' vs = L2.wipe σ vs := fun {vs σ σ'} hl h => by
  apply List.ext_getElem?
  intro i
  by_cases hi : i ∈ vs
  · have key : ∀ (us : List Nat) (τ : L2.St), i ∈ us → (L2.wipe τ us)[i]? = if i < τ.length then some none else none := by
      intro us τ
      induction us with
      | nil => intro h; cases h
      | cons u us ih =>
        intro hm
        unfold L2.wipe
        by_cases hu : u = i
        · subst hu
          rw [List.getElem?_set]
          simp only [if_true, L2.wipe_length]
        · rw [List.getElem?_set_ne hu]
          exact ih (by
            rcases List.mem_cons.mp hm with z | z
            · exact absurd z.symm hu
            · exact z)
    rw [key vs σ' hi, key vs σ hi, hl]
  · rw [L2.wipe_out hi, L2.wipe_out hi]
    exact h i hi
theorem compL_drop {f : D → Res (Option D)} {xs : List D} {i : Nat} {ys : List D} (hi : i < xs.length) (h : compL f (xs.drop i) = .ok ys) :
    ∃ o zs, f xs[i] = .ok o ∧ compL f (xs.drop (i + 1)) = .ok zs ∧ ys = match o with | some y => y :: zs | none => zs := by
  rw [List.drop_eq_getElem_cons hi] at h
  simp only [compL] at h
  cases e1 : f xs[i] with
  | ok o =>
    rw [e1, bind_ok] at h
    cases e2 : compL f (xs.drop (i + 1)) with
    | ok zs =>
      rw [e2, bind_ok] at h
      exact ⟨o, zs, rfl, rfl, (Res.ok.inj h).symm⟩
    | exc _ _ => rw [e2] at h; cases h
    | stuck => rw [e2] at h; cases h
  | exc _ _ => rw [e1] at h; cases h
  | stuck => rw [e1] at h; cases h
theorem noexc_of {α β : Type} {r : Res α} {k : α → Res β} {good : β → Prop} {bad : String → List (String × D) → Prop} (h : Out (noexc r >>= k) good bad) : ∃ a, r = .ok a ∧ Out (k a) good bad := by
  cases r with
  | ok a => exact ⟨a, rfl, h⟩
  | exc c fs => exact h.elim
  | stuck => exact h.elim
theorem ER.more {K : Frag} {A A' : AS} {H0 : Base} {ow : Ow} {O : OW} {σ : L2.St} {H H' : Hp} {e : Env} (R : ER K A H0 ow O σ H e) (h0 : ∀ a, A' a → H' a ≠ none) (s : Same H H') (hA : ∀ a, A' a → A a ∨ H a = none) (hA2 : ∀ a, A a → A' a) : ER K A' H0 ow O σ H' e := by
  have mv : Mv (AO A O) H (AO A' O) H' := ⟨fun a ha => by
    rcases ha with ha | ha
    · rcases hA a ha with z | z
      · exact .inl (.inl z)
      · exact .inr z
    · exact .inl (.inr ha), fun a o e _ => s a o e⟩
  refine ⟨R.len, h0, R.same.trans s, fun i d h1 h2 => ?_, fun i d h1 h2 => ?_, fun i a h => ⟨(R.fresh i a h).1, ne_none s (R.fresh i a h).2.1, fun z => (hA a z).elim (R.fresh i a h).2.2 (R.fresh i a h).2.1⟩, R.inj, R.pin, R.exq.heap mv fun da fvs e => s _ _ e⟩
  · obtain ⟨v, q, r⟩ := R.vals i d h1 h2
    exact ⟨v, q, Rep.move mv _ _ r⟩
  · obtain ⟨a, q, q2, r⟩ := R.owns i d h1 h2
    refine ⟨a, q, q2, r.move mv ?_⟩
    cases z : H a with
    | none => exact absurd z (R.fresh i a q).2.1
    | some o => exact s a o z
/-- [elt for tg in iter if test]; vs: the block's own names, ts: those that the target sets -/
theorem lc_of {K : Frag} {it : IM} {vs ts : List Nat} {g : GM} {t : TM} {elt : EM} (hx : ow.x = none) (hts : ∀ j ∈ ts, j ∈ vs) {σ : L2.St} {H : Hp} {Q : VK} (h : tF K W ow (lcE it vs g t elt) σ H Q) :
    tLc (tI Gr K W ow it) (tGt K ow ts g) (tT K W0 ow t) (tE K W0 ow elt) vs σ H Q := by
  obtain ⟨A, H0, O, en, R, q⟩ := h
  refine ⟨A, H0, O, en, R, (Out.bind q).good fun xs q1 J H1 s1 itm D hD => ?_⟩
  obtain ⟨ys, hys, q2⟩ := noexc_of q1
  by_cases hsz : xs.length ≤ SZ
  case neg =>
    unfold chk at q2
    rw [if_neg hsz] at q2
    exact q2.elim
  unfold chk at q2
  rw [if_pos hsz] at q2
  have hsl : SZ = sizeLine := rfl
  have R1 := R.to s1
  have hAD : ¬ AO A O D := fun z => R1.there D z hD
  generalize hA' : (fun b => A b ∨ b = D : AS) = A'
  have hA1 : ∀ b, AO A' O b → AO A O b ∨ b = D := fun b hb => by
    subst hA'
    rcases hb with (hb | hb) | hb
    · exact .inl (.inl hb)
    · exact .inr hb
    · exact .inl (.inr hb)
  have hA2 : ∀ b, AO A O b ∨ b = D → AO A' O b := fun b hb => by
    subst hA'
    rcases hb with (hb | hb) | hb
    · exact .inl (.inl hb)
    · exact .inr hb
    · exact .inl (.inr hb)
  refine ⟨fun i m H' => m = xs.length - i ∧ i ≤ xs.length ∧ ∃ acc vs' zs, H' D = some (.lst vs') ∧ Same H1 H' ∧ acc.length ≤ i ∧ compL (compF vs g t elt en) (xs.drop i) = .ok zs ∧ ys = acc ++ zs ∧ RepL K (AO A' O) H' acc vs', ⟨xs.length, by simp, Nat.zero_le _, [], [], ys, upd_same, new_same hD, Nat.le_refl _, hys, rfl, by simp [RepL]⟩, ?_⟩
  rintro i m H' ⟨rfl, hi, acc, vs', zs, hH', s2, hal, hz, hyz, hr2⟩
  have im := itm i (AO A' O) H' ⟨fun b hb => (hA1 b hb).elim .inl fun z => by rw [z]; exact .inr hD, s2⟩
  by_cases hlt : i < xs.length
  · right
    obtain ⟨hgo, hy⟩ := im.1 hlt
    obtain ⟨o, zs', hf, hz', hzs⟩ := compL_drop hlt hz
    refine ⟨hgo, fun H'' => ∃ acc vs' zs, H'' D = some (.lst vs') ∧ Same H1 H'' ∧ acc.length ≤ i + 1 ∧ compL (compF vs g t elt en) (xs.drop (i + 1)) = .ok zs ∧ ys = acc ++ zs ∧ RepL K (AO A' O) H'' acc vs', fun H'' ⟨a1, a2, a3, h1, h2, h3, h4, h5, h6⟩ => ⟨xs.length - (i + 1), by omega, rfl, by omega, a1, a2, a3, h1, h2, h3, h4, h5, h6⟩, fun x H3 y => ?_⟩
    obtain ⟨s3, d, hd, rd⟩ := hy x H3 y
    have hd' : d = xs[i] := by
      rw [List.getElem?_eq_getElem hlt] at hd
      exact (Option.some.inj hd).symm
    subst hd'
    unfold compF at hf
    cases hg : g xs[i] (wipe en vs) with
    | none => rw [hg] at hf; cases hf
    | some e1 =>
      rw [hg, lift_some, bind_ok] at hf
      have s13 := s2.trans s3
      have hD3 : H3 D ≠ none := by
        rw [s3 _ _ hH']
        exact fun z => nomatch z
      have R3 : ER K A' H0 ow O (L2.wipe σ vs) H3 (wipe en vs) := ((R1.more (A' := A') (H' := H3) (fun b hb => by
        rcases hA1 b (.inl hb) with z | z
        · exact (R1.to s13).there b z
        · rw [z]
          exact hD3) s13 (fun b hb => by
        subst hA'
        rcases hb with hb | hb
        · exact .inl hb
        · rw [hb]
          exact .inr hD) (fun b hb => by
        subst hA'
        exact .inl hb))).wipe vs hx
      refine ⟨A', H0, O, wipe en vs, xs[i], e1, R3, rd, hg, fun σ1 Rσ l1 k1 => ⟨?_, ?_⟩⟩
      · have w1 := wipe_eq (vs := vs) (σ := L2.wipe σ vs) (σ' := σ1) l1 fun j hj => k1 j fun z => hj (hts j z)
        rw [w1]
        exact wipe_eq (L2.wipe_length _ _) fun j hj => L2.wipe_out hj
      · cases ht : t e1 with
        | exc c fs => rw [ht] at hf; cases hf
        | stuck => rw [ht] at hf; cases hf
        | ok bb =>
          rw [ht, bind_ok] at hf
          refine ⟨A', H0, O, e1, Rσ, ?_⟩
          rw [ht]
          show ∀ H', Same H3 H' → _
          intro H4 s4
          cases bb with
          | false =>
            rw [if_neg (by decide)] at hf ⊢
            have ho : o = none := (Res.ok.inj hf).symm
            subst ho
            have s5 : Same H' H4 := s3.trans s4
            exact ⟨acc, vs', zs', s5 _ _ hH', s2.trans s5, by omega, hz', by rw [hyz, hzs], RepL.move (Mv.same s5) _ _ hr2⟩
          | true =>
            rw [if_pos rfl] at hf ⊢
            refine ⟨A', H0, O, e1, Rσ.to s4, ?_⟩
            cases he : elt e1 with
            | exc c fs => rw [he] at hf; cases hf
            | stuck => rw [he] at hf; cases hf
            | ok y' =>
              rw [he, bind_ok] at hf
              have ho : o = some y' := (Res.ok.inj hf).symm
              subst ho
              show ∀ v H', Same H4 H' → _
              intro v5 H5 s5 r5
              have s6 : Same H' H5 := (s3.trans s4).trans s5
              have a1 := s6 _ _ hH'
              have hmv : Mv (AO A' O) H5 (AO A' O) (upd H5 D (.lst (vs' ++ [v5]))) := ⟨fun b hb => .inl hb, fun b o' e1 hb => by
                rw [upd_ne]
                · exact e1
                · intro z
                  subst z
                  rcases hb with hb | hb
                  · exact hb (hA2 _ (.inr rfl))
                  · rw [a1] at e1
                    cases e1
                    exact hb⟩
              have rall := (RepL.move (Mv.same s6) _ _ hr2).append (RepL.one r5)
              have hlen := hr2.length
              refine ⟨vs', a1, by omega, acc ++ [y'], vs' ++ [v5], zs', upd_same, fun b o' e1 => ?_, by simp; omega, hz', by rw [hyz, hzs]; simp, RepL.move hmv _ _ rall⟩
              rw [upd_ne (ne_of_none e1 hD)]
              exact s6 _ _ (s2 _ _ e1)
  · left
    refine ⟨im.2 (by omega), ?_⟩
    have hi2 : i = xs.length := by omega
    subst hi2
    rw [List.drop_length] at hz
    have hzz : zs = [] := (Res.ok.inj hz).symm
    subst hzz
    rw [List.append_nil] at hyz
    subst hyz
    exact q2 D H' (s1.free hD) (s1.trans s2) ⟨vs', hH', RepL.move (Mv.less fun b hb => hA2 b hb) _ _ hr2⟩
end
end Py
/-! Statements. -/
namespace Py
open PySem L2
section
variable {K : Frag} {A : AS} {H0 : Base} {ow : Ow} {O : OW} {σ : L2.St} {H H' : Hp} {e : Env}
/-- every name gives up what it owns -/
theorem ER.freeze (R : ER K A H0 ow O σ H e) : ER K A ⟨H0.hp, none⟩ ow.off (fun _ => none) σ H e := by
  have mv : Mv (AO A O) H (AO A fun _ => none) H := Mv.less fun b hb => hb.elim .inl fun ⟨_, z⟩ => nomatch z
  refine ⟨R.len, R.a0, R.same, fun i d h1 _ => ?_, fun i d h1 h2 => ?_, fun i a h => (nomatch h), fun i j a h => (nomatch h), fun a h => (nomatch h), fun q hq => ?_⟩
  rotate_right
  · obtain ⟨h1, h2, h3, fvs, h4, h5⟩ := R.exq q hq
    refine ⟨?_, h2, h3, fvs, h4, RepF.move mv _ _ h5⟩
    have hq2 : ow.x = some q := hq
    simp only [Ow.off, hq2, beq_self_eq_true]
  rotate_right
  · simp only [Ow.off] at h2
    cases hq : ow.x with
    | none =>
      rw [hq] at h2
      cases h2
    | some q =>
      rw [hq] at h2
      have hi : i = q.i := by simpa using h2
      subst hi
      exact absurd h1 ((R.exq q hq).no d)
  cases hi : ow i with
  | false =>
    obtain ⟨v, q, r⟩ := R.vals i d h1 hi
    exact ⟨v, q, Rep.move mv _ _ r⟩
  | true =>
    obtain ⟨a, q, q2, r⟩ := R.owns i d h1 hi
    refine ⟨.ref a, q2, ?_⟩
    have na : ¬ AO A (fun _ => none) a := fun z => z.elim (R.fresh i a q).2.2 fun ⟨_, w⟩ => nomatch w
    cases d with
    | lst ds =>
      obtain ⟨vs, e1, r1⟩ := r
      simp only [Rep]
      exact ⟨a, vs, rfl, na, .inl e1, RepL.move mv _ _ r1⟩
    | ins c fs =>
      obtain ⟨dx, fvs, e1, r1⟩ := r
      simp only [Rep]
      exact ⟨a, dx, fvs, rfl, na, e1, RepF.move mv _ _ r1⟩
    | _ => exact r.elim
/-- a name's own object changes -/
theorem ER.write (R : ER K A H0 ow O σ H e) {i : Nat} {a : Addr} {o : HO} {d d' : D} (hi : ow i = true) (he : e[i]? = some (some d)) (ha : O i = some a) (h : OwnAt K (AO A O) (upd H a o) a d') : ER K A H0 ow O σ (upd H a o) (e.set i (some d')) := by
  obtain ⟨a1, q1, q2, r⟩ := R.owns i d he hi
  rw [ha] at q1
  cases q1
  have hst : ∀ u, H a = some u → ¬ still u := fun u hu => by
    cases d with
    | lst ds =>
      obtain ⟨vs, e1, _⟩ := r
      rw [e1] at hu
      cases hu
      exact fun z => z
    | ins c fs =>
      obtain ⟨dx, fvs, e1, _⟩ := r
      rw [e1] at hu
      cases hu
      exact fun z => z
    | _ => exact r.elim
  have mv : Mv (AO A O) H (AO A O) (upd H a o) := ⟨fun b hb => .inl hb, fun b u e1 hb => by
    rw [upd_ne]
    · exact e1
    · intro z
      subst z
      rcases hb with hb | hb
      · exact hb (.inr ⟨i, ha⟩)
      · exact hst u e1 hb⟩
  have hne : ∀ {H1 : Hp} {b : Addr}, H1 b ≠ none → (upd H1 a o) b ≠ none := fun {H1 b} h => by
    unfold upd
    split
    · exact fun z => nomatch z
    · exact h
  refine ⟨by simp [R.len], fun b hb => hne (R.a0 b hb), fun b u e1 => ?_, fun j dj h1 h2 => ?_, fun j dj h1 h2 => ?_, fun j b hb => ⟨(R.fresh j b hb).1, hne (R.fresh j b hb).2.1, (R.fresh j b hb).2.2⟩, R.inj, R.pin, R.exq.move mv (fun da fvs e1 => (upd_ne fun z => by
    subst z
    cases d with
    | lst ds =>
      obtain ⟨vs, e2, _⟩ := r
      rw [e2] at e1
      cases e1
    | ins c fs =>
      obtain ⟨dx, fvs, e2, _⟩ := r
      rw [e2] at e1
      cases e1
    | _ => exact r.elim).trans e1) fun j _ n => ⟨rfl, fun dj => by
      have hij : i ≠ j := fun z => by
        subst z
        exact n _ he
      rw [List.getElem?_set_ne hij]
      exact n dj⟩⟩
  · rw [upd_ne]
    · exact R.same b u e1
    · intro z
      rw [z, (R.fresh i a ha).1] at e1
      cases e1
  · have hj : i ≠ j := fun z => by
      subst z
      rw [hi] at h2
      cases h2
    rw [List.getElem?_set_ne hj] at h1
    obtain ⟨v, q, r⟩ := R.vals j dj h1 h2
    exact ⟨v, q, Rep.move mv _ _ r⟩
  · by_cases hj : i = j
    · subst hj
      have hl := (List.getElem?_eq_some_iff.mp he).1
      rw [List.getElem?_set_self hl] at h1
      cases h1
      exact ⟨a, ha, q2, h⟩
    · rw [List.getElem?_set_ne hj] at h1
      obtain ⟨b, p1, p2, p3⟩ := R.owns j dj h1 h2
      have hba : b ≠ a := fun z => by
        subst z
        exact hj (R.inj i j b ha p1)
      exact ⟨b, p1, p2, p3.move mv (upd_ne hba)⟩
/-- a name gets an object of its own -/
theorem ER.take (R : ER K A H0 ow O σ H e) {i : Nat} {a : Addr} {d : D} (s : Same H H') (hxi : ∀ q, ow.x = some q → q.i ≠ i) (hi : ow i = true) (h0 : 0 < i) (hn : H a = none) (h : OwnAt K (fun b => AO A O b ∨ b = a) H' a d) :
    ER K A H0 ow (fun j => if j = i then some a else O j) (σ.set i (some (.ref a))) H' (e.set i (some d)) ∧ Mv (AO A O) H (AO A fun j => if j = i then some a else O j) H' := by
  have sub : ∀ b, AO A (fun j => if j = i then some a else O j) b → AO A O b ∨ b = a := fun b hb => by
    rcases hb with hb | ⟨j, hb⟩
    · exact .inl (.inl hb)
    · by_cases hj : j = i
      · simp only [hj, if_true, Option.some.injEq] at hb
        exact .inr hb.symm
      · simp only [hj, if_false] at hb
        exact .inl (.inr ⟨j, hb⟩)
  have mv : Mv (AO A O) H (AO A fun j => if j = i then some a else O j) H' := ⟨fun b hb => (sub b hb).elim .inl fun z => by rw [z]; exact .inr hn, fun b o e1 _ => s b o e1⟩
  have mv2 : Mv (fun b => AO A O b ∨ b = a) H' (AO A fun j => if j = i then some a else O j) H' := Mv.less sub
  have ha : H' a ≠ none := by
    cases d with
    | lst ds =>
      obtain ⟨vs, e1, _⟩ := h
      rw [e1]
      exact fun z => nomatch z
    | ins c fs =>
      obtain ⟨dx, fvs, e1, _⟩ := h
      rw [e1]
      exact fun z => nomatch z
    | _ => exact h.elim
  refine ⟨⟨by simp [R.len], fun b hb => ne_none s (R.a0 b hb), R.same.trans s, fun j dj h1 h2 => ?_, fun j dj h1 h2 => ?_, fun j b hb => ?_, fun j k b hj hk => ?_, fun b hb => ?_, fun q hq => ?_⟩, mv⟩
  rotate_right
  · obtain ⟨z1, z2, z3, fvs, z4, z5⟩ := R.exq q hq
    have hne : i ≠ q.i := fun z => hxi q hq z.symm
    refine ⟨z1, ?_, ?_, fvs, s _ _ z4, RepF.move mv _ _ z5⟩ <;> rw [List.getElem?_set_ne hne]
    · exact z2
    · exact z3
  · have hj : i ≠ j := fun z => by
      subst z
      rw [hi] at h2
      cases h2
    rw [List.getElem?_set_ne hj] at h1
    obtain ⟨v, q, r⟩ := R.vals j dj h1 h2
    exact ⟨v, by rw [List.getElem?_set_ne hj]; exact q, Rep.move mv _ _ r⟩
  · by_cases hj : i = j
    · subst hj
      have hl : i < e.length := by
        have := (List.getElem?_eq_some_iff.mp h1).1
        simpa using this
      rw [List.getElem?_set_self hl] at h1
      cases h1
      exact ⟨a, by simp, List.getElem?_set_self (by rw [R.len]; exact hl), h.move mv2 rfl⟩
    · rw [List.getElem?_set_ne hj] at h1
      obtain ⟨b, p1, p2, p3⟩ := R.owns j dj h1 h2
      have hj' : ¬ j = i := fun z => hj z.symm
      refine ⟨b, by simp only [hj', if_false]; exact p1, by rw [List.getElem?_set_ne hj]; exact p2, p3.move mv ?_⟩
      cases z : H b with
      | none => exact absurd z (R.fresh j b p1).2.1
      | some o => exact s b o z
  · by_cases hj : j = i
    · simp only [hj, if_true, Option.some.injEq] at hb
      subst hb
      refine ⟨?_, ha, fun z => R.a0 a z hn⟩
      cases z : H0.hp a with
      | none => rfl
      | some o =>
        rw [R.same a o z] at hn
        cases hn
    · simp only [hj, if_false] at hb
      exact ⟨(R.fresh j b hb).1, ne_none s (R.fresh j b hb).2.1, (R.fresh j b hb).2.2⟩
  · have old : ∀ l b, O l = some b → b ≠ a := fun l b hl z => by
      rw [z] at hl
      exact (R.fresh l a hl).2.1 hn
    by_cases h1 : j = i
    · by_cases h2 : k = i
      · rw [h1, h2]
      · simp only [h1, if_true, Option.some.injEq] at hj
        simp only [h2, if_false] at hk
        exact absurd hj.symm (old k b hk)
    · by_cases h2 : k = i
      · simp only [h2, if_true, Option.some.injEq] at hk
        simp only [h1, if_false] at hj
        exact absurd hk.symm (old j b hj)
      · simp only [h1, if_false] at hj
        simp only [h2, if_false] at hk
        exact R.inj j k b hj hk
  · have h1 : ¬ 0 = i := fun z => by omega
    simp only [h1, if_false]
    exact R.pin b hb
end
/-- what is given back; fr: an object that is new and its caller's own -/
def RetOk (fr : Bool) (K : Frag) (A : AS) (H0 : Base) (H' : Hp) (d : D) (v : V) : Prop := match fr with
  | false => Rep K A H' d v
  | true => ∃ a, v = .ref a ∧ H0.hp a = none ∧ OwnAt K (fun b => A b ∨ b = a) H' a d
/-- what must hold behind a statement; oN: who owns behind it, oB: who owns at a break, a continue -/
def EndOk3 (fr : Bool) (K : Frag) (A : AS) (H0 : Base) (oN oB : Ow) (O : OW) (H : Hp) (D : Ends) : Fl → Prop
  | .next e' => ∀ O' σ' H', ER K A H0 oN O' σ' H' e' → Mv (AO A O) H (AO A O') H' → D.nx σ' H'
  | .ret d => ∀ v H', Same H0.hp H' → RetOk fr K A H0 H' d v → D.rt v H'
  | .brk e' => ∀ O' σ' H', ER K A H0 oB O' σ' H' e' → Mv (AO A O) H (AO A O') H' → D.bk σ' H'
  | .cnt e' => ∀ O' σ' H', ER K A H0 oB O' σ' H' e' → Mv (AO A O) H (AO A O') H' → D.ct σ' H'
abbrev EndOk (fr : Bool) (K : Frag) (A : AS) (H0 : Base) (ow : Ow) (O : OW) (H : Hp) (D : Ends) : Fl → Prop := EndOk3 fr K A H0 ow ow O H D
theorem EndOk3.to {fr : Bool} {K : Frag} {A : AS} {H0 : Base} {oN oB : Ow} {O O1 : OW} {H H1 : Hp} {D : Ends} (m : Mv (AO A O) H (AO A O1) H1) : ∀ {f : Fl}, EndOk3 fr K A H0 oN oB O H D f → EndOk3 fr K A H0 oN oB O1 H1 D f
  | .next _, h => fun O' σ' H' R n => h O' σ' H' R (m.trans n)
  | .ret _, h => h
  | .brk _, h => fun O' σ' H' R n => h O' σ' H' R (m.trans n)
  | .cnt _, h => fun O' σ' H' R n => h O' σ' H' R (m.trans n)
def badS (K : Frag) (W : WX) (A : AS) (H0 : Base) (c : String) (fs : List (String × D)) : Prop :=
  ∀ σ' da H' fvs, Same H0.hp H' → H' da = some (.xd fvs) → RepF K A H' fs fvs → W (.ref (ca K c)) (some da) σ' H'
theorem badS.e {K : Frag} {W : WX} {A : AS} {H0 : Base} {ow : Ow} {O : OW} {σ : L2.St} {H : Hp} {e : Env} (R : ER K A H0 ow O σ H e) {c : String} {fs : List (String × D)} (h : badS K W A H0 c fs) : badE K W A O σ H c fs := fun da H' fvs s q r =>
  h σ da H' fvs (R.same.trans s) q (RepF.move (Mv.less fun b => .inl) _ _ r)
def tS3 (fr : Bool) (K : Frag) (W : WX) (ow oN oB : Ow) (m : SM) : TS := fun D σ H => ∃ A H0 O e, ER K A H0 ow O σ H e ∧ Out (m e) (EndOk3 fr K A H0 oN oB O H D) (badS K W A H0)
abbrev tS (fr : Bool) (K : Frag) (W : WX) (ow : Ow) (m : SM) : TS := tS3 fr K W ow ow ow m
section
variable {fr : Bool} {X : Cx} {W : WX} {ow : Ow} {a b c e : Expr} {es : List Expr} {m ma mb mc : EM} {st : Stmt} {rest body orelse : List Stmt} {u v : SM} {t : TM} {pos : Pos}
theorem Out.se {α : Type} {K : Frag} {W : WX} {A : AS} {H0 : Base} {ow : Ow} {O : OW} {σ : L2.St} {H : Hp} {e : Env} (R : ER K A H0 ow O σ H e) {r : Res α} {good : α → Prop} (h : Out r good (badS K W A H0)) : Out r good (badE K W A O σ H) := h.imp (fun _ _ x => x) fun _ _ x => x.e R
/-! ### blocks -/
theorem ss_nil : PSs X [] (tS fr X.K W ow skip) := PSs.of pss_nil fun D σ H ⟨A, H0, O, en, R, q⟩ => q O σ H R Mv.refl
theorem ss_one (h : PS X st (tS fr X.K W ow u)) : PSs X [st] (tS fr X.K W ow u) := pss_one h
theorem ss_cons (h : PS X st (tS fr X.K W ow u)) (k : PSs X rest (tS fr X.K W ow v)) : PSs X (st :: rest) (tS fr X.K W ow (seq u v)) :=
  PSs.of (pss_cons h k) fun D σ H ⟨A, H0, O, en, R, q⟩ => ⟨A, H0, O, en, R, (Out.bind q).good fun f q1 => by
    cases f with
    | next e' => exact fun O' σ' H' R' mv => ⟨A, H0, O', e', R', q1.good fun f q2 => q2.to mv⟩
    | ret d => exact q1
    | brk e' => exact q1
    | cnt e' => exact q1⟩
/-! ### assignments -/
theorem s_set {i : Nat} (h : PS X st (tAsg (tE X.K W ow m) (gName i))) (hi : ow i = false) : PS X st (tS fr X.K W ow (asg (gnm i) m)) :=
  PS.of h fun D σ H ⟨A, H0, O, en, R, q⟩ => ⟨A, H0, O, en, R, ((Out.bind q).se R).good fun d q1 v H1 s1 r1 => q1 O _ H1 ((R.to s1).set hi r1) (Mv.same s1)⟩
theorem s_ret (h : PE X a (tE X.K W ow.off m)) : PS X (.Return (some a) pos) (tS false X.K W ow (ret m)) :=
  PS.of (ps_ret h) fun D σ H ⟨A, H0, O, en, R, q⟩ => ⟨A, _, _, en, R.freeze, ((Out.bind (show Out (ret m en) _ (badS X.K W A ⟨H0.hp, none⟩) from q)).se R.freeze).good fun d q1 v H1 s1 r1 =>
    q1 v H1 (R.same.trans s1) (Rep.move (Mv.less fun b => .inl) _ _ r1)⟩
theorem s_if (hc : PT X a (tT X.K W ow t)) (hb : PSs X body (tS fr X.K W ow u)) (ho : PSs X orelse (tS fr X.K W ow v)) : PS X (.If a body orelse pos) (tS fr X.K W ow (ite t u v)) :=
  PS.of (ps_if hc hb ho) fun D σ H ⟨A, H0, O, en, R, q⟩ => ⟨A, H0, O, en, R, ((Out.bind q).se R).good fun k q1 H1 s1 => by
    cases k with
    | true =>
      rw [if_pos rfl] at q1 ⊢
      exact ⟨A, H0, O, en, R.to s1, q1.good fun f q2 => q2.to (Mv.same s1)⟩
    | false =>
      rw [if_neg (by decide)] at q1 ⊢
      exact ⟨A, H0, O, en, R.to s1, q1.good fun f q2 => q2.to (Mv.same s1)⟩⟩
/-! ### loops -/
theorem for_of {it : IM} {ts : List Nat} {g : GM} {D : Ends} {σ : L2.St} {H : Hp} (h : tS fr X.K W ow (for_ it g u) D σ H) : tFor (tI Mv X.K W ow it) (tGt X.K ow ts g) (tS fr X.K W ow u) D σ H := by
  obtain ⟨A, H0, O, en, R, q⟩ := h
  exact ⟨A, H0, O, en, R, ((Out.bind q).se R).good fun xs q1 J H1 s1 itm => by
    refine ⟨fun i m σ' H' => m = xs.length - i ∧ i ≤ xs.length ∧ ∃ O' e', ER X.K A H0 ow O' σ' H' e' ∧ Mv (AO A O) H1 (AO A O') H' ∧ Out (forL (forB g u) (xs.drop i) e') (EndOk fr X.K A H0 ow O H1 D) (badS X.K W A H0),
      ⟨xs.length, by simp, Nat.zero_le _, O, en, R.to s1, Mv.refl, q1.good fun f q2 => q2.to (Mv.same s1)⟩, ?_⟩
    rintro i m σ' H' ⟨rfl, hi, O', e', R', mv, q2⟩
    have im := itm i (AO A O') H' mv
    by_cases hlt : i < xs.length
    · right
      obtain ⟨hgo, hy⟩ := im.1 hlt
      refine ⟨hgo, fun σ' H' => ∃ O' e', ER X.K A H0 ow O' σ' H' e' ∧ Mv (AO A O) H1 (AO A O') H' ∧ Out (forL (forB g u) (xs.drop (i + 1)) e') (EndOk fr X.K A H0 ow O H1 D) (badS X.K W A H0), fun σ2 H2 ⟨a1, a2, a3⟩ => ⟨xs.length - (i + 1), by omega, rfl, by omega, a1, a2, a3⟩, fun x H3 y => ?_⟩
      obtain ⟨s3, d, hd, rd⟩ := hy x H3 y
      have hd' : d = xs[i] := by
        rw [List.getElem?_eq_getElem hlt] at hd
        exact (Option.some.inj hd).symm
      subst hd'
      rw [List.drop_eq_getElem_cons hlt] at q2
      simp only [forL, forB] at q2
      cases hg' : g xs[i] e' with
      | none =>
        rw [hg'] at q2
        exact q2.elim
      | some e2 =>
        rw [hg', lift_some, bind_ok] at q2
        have mv3 : Mv (AO A O) H1 (AO A O') H3 := mv.trans (Mv.same s3)
        refine ⟨A, H0, O', e', xs[i], e2, R'.to s3, rd, hg', fun σ2 R2 _ _ => ⟨A, H0, O', e2, R2, ?_⟩⟩
        cases hu : u e2 with
        | exc c fs =>
          rw [hu] at q2
          exact q2
        | stuck =>
          rw [hu] at q2
          exact q2.elim
        | ok f =>
          rw [hu] at q2
          cases f with
          | next e3 => exact fun O3 σ3 H4 R3 m3 => ⟨O3, e3, R3, mv3.trans m3, q2⟩
          | cnt e3 => exact fun O3 σ3 H4 R3 m3 => ⟨O3, e3, R3, mv3.trans m3, q2⟩
          | brk e3 =>
            have q3 : EndOk fr X.K A H0 ow O H1 D (.next e3) := q2
            exact fun O3 σ3 H4 R3 m3 => q3 O3 σ3 H4 R3 (mv3.trans m3)
          | ret d => exact q2
    · left
      have hi2 : i = xs.length := by omega
      subst hi2
      rw [List.drop_length] at q2
      have q3 : EndOk fr X.K A H0 ow O H1 D (.next e') := q2
      exact ⟨im.2 rfl, q3 O' σ' H' R' mv⟩⟩
theorem s_for {tg iter : Expr} {it : IM} {ts : List Nat} {g : GM} (hp : PassesOwn (model X.prog X.w) X.A X.env X.xe) (hc : X.calm = true) (hi : PI X tg iter (tI Mv X.K W ow it)) (hg : PG X tg (tGt X.K ow ts g)) (hb : PSs X body (tS fr X.K W ow u))
    (hs : ∀ x, foldedSetIterable iter X.env x = pure x := by intro _; rfl) : PS X (.For tg iter body [] pos) (tS fr X.K W ow (for_ it g u)) :=
  PS.of (ps_for hp hc hi hg hb hs) fun D σ H h => for_of h
/-! ### a name's own list, object -/
theorem var_ok {α : Type} {i : Nat} {en : Env} {k : D → Res α} {good : α → Prop} {bad : String → List (String × D) → Prop} (h : Out (var i en >>= k) good bad) : ∃ d, en[i]? = some (some d) ∧ Out (k d) good bad := by
  unfold var at h
  split at h
  · rename_i d hd
    exact ⟨d, hd, h⟩
  · exact h.elim
theorem sqL {K : Frag} {H : Hp} {a : Addr} {vs : List V} (h : H a = some (.lst vs)) : L2.tyV K "list" (.ref a) H := .inl ⟨rfl, vs, .inl (.inl h)⟩
theorem own_mv {K : Frag} {A : AS} {H0 : Base} {ow : Ow} {O : OW} {σ : L2.St} {H : Hp} {en : Env} (R : ER K A H0 ow O σ H en) {i : Nat} {a : Addr} (p1 : O i = some a) {u o : HO} (e : H a = some u) (hs : ¬ still u) : Mv (AO A O) H (AO A O) (upd H a o) :=
  ⟨fun b hb => .inl hb, fun b o e3 hb => by
    rw [upd_ne]
    · exact e3
    · intro z
      subst z
      rcases hb with hb | hb
      · exact hb (.inr ⟨i, p1⟩)
      · rw [e] at e3
        cases e3
        exact hs hb⟩
/-- x.append(e) -/
theorem s_app {i : Nat} (h : PS X st (tDrop (tBM X.K "list" rAppend (tVar i) (tCons (tE X.K W ow m) tNil)))) (hi : ow i = true) : PS X st (tS fr X.K W ow (app i m)) :=
  PS.of h fun D σ H ⟨A, H0, O, en, R, q⟩ => by
    obtain ⟨l, hl, q1⟩ := var_ok q
    obtain ⟨a, p1, p2, p3⟩ := R.owns i l hl hi
    cases l with
    | lst ds =>
      obtain ⟨vs, e1, r1⟩ := p3
      refine ⟨.ref a, p2, sqL e1, A, H0, O, en, R, ((Out.bind q1).se R).good fun d q2 v H1 s1 r2 => ?_⟩
      split at q2
      · rename_i hz
        have e2 := s1 _ _ e1
        refine ⟨a, vs, v, rfl, rfl, e2, by rw [← r1.length]; exact hz, ?_⟩
        have R1 := R.to s1
        have mv := own_mv R1 p1 (o := .lst (vs ++ [v])) e2 fun z => z
        have R2 := R1.write (o := .lst (vs ++ [v])) (d' := .lst (ds ++ [d])) hi hl p1 ⟨_, upd_same, RepL.move mv _ _ ((RepL.move (Mv.same s1) _ _ r1).append (RepL.one r2))⟩
        exact q2 O σ _ R2 ((Mv.same s1).trans mv)
      · exact q2.elim
    | _ => exact q1.elim
/-- x[j] = e -/
theorem s_setL {i : Nat} {mj : EM} (h : PS X st (tAsg (tE X.K W ow m) (gSub (tVar i) (tE X.K W ow mj) rSetL))) (hi : ow i = true) : PS X st (tS fr X.K W ow (setL i mj m)) :=
  PS.of h fun D σ H ⟨A, H0, O, en, R, q⟩ => by
    obtain ⟨l, hl, q1⟩ := var_ok q
    obtain ⟨a, p1, p2, p3⟩ := R.owns i l hl hi
    cases l with
    | lst ds =>
      obtain ⟨vs, e1, r1⟩ := p3
      refine ⟨A, H0, O, en, R, ((Out.bind q1).se R).good fun d q2 v H1 s1 r2 => ⟨.ref a, p2, A, H0, O, en, R.to s1, ((Out.bind q2).se (R.to s1)).good fun k q3 w H2 s2 r3 => ?_⟩⟩
      cases k with
      | int z =>
        simp only at q3
        split at q3
        · rename_i n hn
          have s12 := s1.trans s2
          have e2 := s12 _ _ e1
          have r3' : w = .int z := r3
          subst r3'
          refine ⟨a, vs, z, n, rfl, rfl, e2, by rw [← r1.length]; exact hn, ?_⟩
          have R2 := R.to s12
          have mv := own_mv R2 p1 (o := .lst (vs.set n v)) e2 fun z => z
          have R3 := R2.write (o := .lst (vs.set n v)) (d' := .lst (ds.set n d)) hi hl p1 ⟨_, upd_same, RepL.move mv _ _ (RepL.set (Rep.move (Mv.same s2) _ _ r2) n (RepL.move (Mv.same s12) _ _ r1))⟩
          exact q3 O σ _ R3 ((Mv.same s12).trans mv)
        · exact q3.elim
      | _ => exact q3.elim
    | _ => exact q1.elim
/-- self.f = e -/
theorem s_setF {i : Nat} {cs : List String} {f : String} (F : ∀ c ∈ cs, Cls X.K (ca X.K c) ∧ NoAttr X.K (ca X.K c) (Str.ofString f)) (h : PS X st (sFld X.K (tVar i) (tE X.K W ow m) (Str.ofString f))) (hi : ow i = true) : PS X st (tS fr X.K W ow (setF i cs f m)) :=
  PS.of h fun D σ H ⟨A, H0, O, en, R, q⟩ => by
    obtain ⟨l, hl, q1⟩ := var_ok q
    obtain ⟨a, p1, p2, p3⟩ := R.owns i l hl hi
    cases l with
    | ins c fs =>
      obtain ⟨dx, fvs, e1, r1⟩ := p3
      simp only at q1
      split at q1
      · rename_i hz
        obtain ⟨f1, f2⟩ := F c (by simpa using hz.1)
        refine ⟨A, H0, O, en, R, ((Out.bind q1).se R).good fun d q2 v H1 s1 r2 => ⟨.ref a, p2, a, _, dx, fvs, rfl, s1 _ _ e1, f1, f2, by rw [← r1.length]; exact hz.2, ?_⟩⟩
        have R1 := R.to s1
        have mv := own_mv R1 p1 (o := .ins (ca X.K c) dx (L2.putF (Str.ofString f) v fvs)) (s1 _ _ e1) fun z => z
        have R2 := R1.write (o := .ins (ca X.K c) dx (L2.putF (Str.ofString f) v fvs)) (d' := .ins c (putF f d fs)) hi hl p1 ⟨dx, _, upd_same, RepF.move mv _ _ (RepF.put r2 (RepF.move (Mv.same s1) _ _ r1))⟩
        exact q2 O σ _ R2 ((Mv.same s1).trans mv)
      · exact q1.elim
    | _ => exact q1.elim
end
end Py
/-! Calls, defs, classes. -/
namespace Py
open PySem L2
theorem takes0N {X : Cx} : L2N.Takes X (fun _ _ _ _ => False) := fun u s' x => by
  obtain ⟨a, B, sI, pins, σ, H, cls, d, x1, x2, x3, x4, x5, x6, x7, x8, z⟩ := x
  exact z.elim
theorem passLN {X : Cx} : Passes (L2N.CX X.prog X.w) X E0 := fun pins σ H s e s' I h => by
  obtain ⟨a, B, H', cls, d, x1, x2, x3, x4, x5, x6, x7, z⟩ := h
  exact z.elim
/-- where one stands: k calls deep there is room -/
structure Ctx (X : Cx) (W : WX) (k : Nat) : Prop where
  calm : X.calm = true
  tk : L2N.Takes X W
  po : PassesOwn (model X.prog X.w) X.A X.env X.xe
  hr : Room k X.A
  nd : X.N.Nodup
theorem Ctx.blk {X : Cx} {W : WX} {k : Nat} (c : Ctx X W k) (s : Shared) (H : Hp) (scope : Scope) (cenv : PySem.Env) (fp : List Addr) : Ctx (X.blk s H scope cenv fp) W0 k := ⟨c.calm, takes0N, PassesOwn.never, c.hr, c.nd⟩
/-- a def that computes m of its arguments -/
def spM (K : Frag) (p : Nat) (m : List D → Res D) : Sp := fun vs H Q E => ∃ A ds, RepL K A H ds vs ∧ ds.length = p ∧ (∀ a, A a → H a ≠ none) ∧
  Out (m ds) (fun d => ∀ v H', Same H H' → Rep K A H' d v → Q v H') (fun c fs => ∀ da H' fvs, Same H H' → H' da = some (.xd fvs) → RepF K A H' fs fvs → E (.ref (ca K c)) (some da) H')
/-- an __init__ that makes m of the arguments behind self -/
def spI (K : Frag) (p : Nat) (cls : String) (m : List D → Res D) : Sp := fun vs H Q E => ∃ A x dx H1 ds ws, vs = .ref x :: ws ∧ H = upd (upd H1 dx (.own x)) x (.ins (ca K cls) dx []) ∧ H1 x = none ∧ H1 dx = none ∧ dx ≠ x ∧ RepL K A H1 ds ws ∧ ds.length + 1 = p ∧ (∀ a, A a → H1 a ≠ none) ∧
  Out (m ds) (fun d => ∀ H', Same H1 H' → Rep K A H' d (.ref x) → Q .non H') (fun c fs => ∀ da H' fvs, Same H1 H' → H' da = some (.xd fvs) → RepF K A H' fs fvs → E (.ref (ca K c)) (some da) H')
section
variable {X : Cx} {W : WX} {ow : Ow} {a b c e : Expr} {es : List Expr} {m ma mb mc : EM} {am : AM} {pos p : Pos} {k j n : Nat} {f C : Addr} {fd : FuncData} {ps : List Str} {x : Str} {fm : List D → Res D}
theorem call_of {E : St → XK} (hE : ∀ σ cls d H, W cls d σ H → E σ cls d H) {σ : L2.St} {H : Hp} {Q : VK} (h : tE X.K W ow (call fm am) σ H Q) (hl : ∀ ds d, fm ds = .ok d → ds.length = n) (hx : ∀ ds c fs, fm ds = .exc c fs → ds.length = n) : tCallSD (spM X.K n fm) [] E (aE X.K W ow am) σ H Q := by
  obtain ⟨A, H0, O, en, R, q⟩ := h
  refine ⟨A, H0, O, en, R, (Out.bind q).good fun ds q1 vs H1 s1 r1 => ?_⟩
  dsimp only
  rw [List.append_nil]
  refine ⟨AO A O, ds, paired_rep r1, ?_, (R.to s1).there, q1.imp (fun d _ k v H2 s2 r2 => k v H2 (s1.trans s2) r2) fun c fs z da H2 fvs s2 q2 r2 => hE _ _ _ _ (z da H2 fvs (s1.trans s2) q2 r2)⟩
  cases e : fm ds with
  | ok d => exact hl ds d e
  | exc c fs => exact hx ds c fs e
  | stuck =>
    rw [e] at q1
    exact q1.elim
/-- what a def asks of its number of arguments -/
structure Ar (n : Nat) (fm : List D → Res D) : Prop where
  ok : ∀ ds d, fm ds = .ok d → ds.length = n
  ex : ∀ ds c fs, fm ds = .exc c fs → ds.length = n
theorem ar_fn {p n : Nat} {body : SM} : Ar p (fn p n body) := by
  refine ⟨fun ds d h => ?_, fun ds c fs h => ?_⟩ <;> (unfold fn at h; split at h; (· assumption); (· cases h))
theorem x_call (T : Ctx X W j) (F : FnOk X.prog X.w X.K X.mg X.base (L2N.CX X.prog X.w) k f fd ps (spM X.K n fm)) (hn : Ar n fm) (hk : k ≤ j) (hg : Gl X x) (hm : X.mg x = some (.ref f)) (hkp : PySem.W.keepIn X.K (.ref f) = true) (hb : Binds X.K fd ps [])
    (ha : PA X (e :: es) (aE X.K W ow am)) (hdb : (x == ("__debug__" : Str)) = false := by decide) (he : starEach (e :: es) X.env = (false, eval e X.env) :: starEach es X.env := by rfl) (hpl : (backTo pos (starEach es X.env)).any (·.1) = false := by rfl) :
    PE X (.Call (.Name x p) (e :: es) [] pos) (tE X.K W ow (call fm am)) :=
  PE.of (pe_callSD (E := WE W) F (T.hr.mono hk) hg hm hkp hb .nil (fun σ => L2N.passAt T.tk σ) ha hdb he hpl) fun _ _ _ h => call_of (fun _ _ _ _ z => z) h hn.ok hn.ex
/-- C(..) of an own class: what it may let out, at the slots that stand now -/
def tMk (C : Addr) (sp : Sp) (E : St → XK) (t : TA) : TE := fun σ H Q => t σ H fun vs H1 => ∀ y dy, H1 y = none → H1 dy = none → dy ≠ y → sp (.ref y :: vs) (upd (upd H1 dy (.own y)) y (.ins C dy [])) (fun v H2 => v = .non ∧ Q (.ref y) H2) (E σ)
theorem mk_run {CX : CXT} {E : XK} {sp : Sp} {pins : List (Addr × Obj)} {σ : St} {H : Hp} {s : Shared} {Q : VK} {us : List Value} {vs : List V} (M : Mk X.K C f) (F : FnOk X.prog X.w X.K X.mg X.base CX k f fd ps sp) (hr : Room (k + 1) X.A) (hb : Binds X.K fd ps [])
    (hx : PassesAt CX X σ E) (I : Inv X pins σ H s) (rv : Vals vs us)
    (h : ∀ y dy, H y = none → H dy = none → dy ≠ y → sp (.ref y :: vs) (upd (upd H dy (.own y)) y (.ins C dy [])) (fun v H2 => v = .non ∧ Q (.ref y) H2) E) : wpAny (model X.prog X.w) X.A (PySem.call (.ref C) us) (EP X pins σ Q) X.xe s := by
  have e0 := I.hok.fresh (Nat.le_refl s.heap.objs.size)
  have e1 := I.hok.fresh (Nat.le_succ s.heap.objs.size)
  have q := h _ _ e1 e0 (Nat.ne_of_lt (Nat.lt_succ_self _))
  have J := Inv.made (C := C) I
  have rw' : Vals (V.ref (s.heap.objs.size + 1) :: vs) (Value.ref (s.heap.objs.size + 1) :: us) := .cons rfl rv
  have hl : (Value.ref (s.heap.objs.size + 1) :: us).length = ps.length := rw'.length.symm.trans (F.len _ _ _ _ q)
  have b := hb _ (Value.ref (s.heap.objs.size + 1) :: us) J.kIn (by rw [List.append_nil]; exact hl)
  rw [List.append_nil] at b
  refine wpAny_call (make_map (f := f) I.kIn M.makes M.init (beq_iff_eq.mp M.fn) (codeAny_mono (F.run _ X.stack _ _ ⟨Value.ref (s.heap.objs.size + 1) :: us, []⟩ _ _ _ E (hr.make C us []) (J.env0.make C us []) b rw' q) ?_))
  rintro (u | fl) s' z
  · exact hx pins _ _ u s' J z
  · cases fl with
    | ret u =>
      obtain ⟨v, H', I3, r3, rfl, q3⟩ := J.after z
      exact ⟨r3, V.ref (s.heap.objs.size + 1), H', I3, rfl, q3⟩
    | next => exact False.elim z
    | brk => exact False.elim z
    | cont => exact False.elim z
theorem mk_pe {CX : CXT} {E : St → XK} {sp : Sp} {t : TA} (M : Mk X.K C f) (F : FnOk X.prog X.w X.K X.mg X.base CX k f fd ps sp) (hr : Room (k + 1) X.A) (hg : Gl X x) (hm : X.mg x = some (.ref C)) (hb : Binds X.K fd ps []) (hx : ∀ σ, PassesAt CX X σ (E σ))
    (ha : PA X (e :: es) t) (hdb : (x == ("__debug__" : Str)) = false := by decide) (he : starEach (e :: es) X.env = (false, eval e X.env) :: starEach es X.env := by rfl) (hpl : (backTo pos (starEach es X.env)).any (·.1) = false := by rfl) :
    PE X (.Call (.Name x p) (e :: es) [] pos) (tMk C sp E t) :=
  ⟨fun pins s σ H Q I h => wpAny_Call_Name_kw (ld_glob I hg hm (PySem.W.callWith_K (h₀ := X.base) I.ok.mod.kin M.kp (thn (ha.run pos pins s σ H _ I h) fun us s1 ⟨vs, H1, I1, r, q⟩ => ⟨I1.kIn, mk_run M F hr hb (hx σ) I1 r q⟩) he hpl) hdb)⟩
theorem x_make {cls : String} (T : Ctx X W j) (M : Mk X.K (ca X.K cls) f) (F : FnOk X.prog X.w X.K X.mg X.base (L2N.CX X.prog X.w) k f fd ps (spI X.K n cls fm)) (hn : ∀ ds d, (fm ds = .ok d → ds.length + 1 = n)) (hx : ∀ ds c fs, fm ds = .exc c fs → ds.length + 1 = n)
    (hk : k + 1 ≤ j) (hg : Gl X x) (hm : X.mg x = some (.ref (ca X.K cls))) (hb : Binds X.K fd ps [])
    (ha : PA X (e :: es) (aE X.K W ow am)) (hdb : (x == ("__debug__" : Str)) = false := by decide) (he : starEach (e :: es) X.env = (false, eval e X.env) :: starEach es X.env := by rfl) (hpl : (backTo pos (starEach es X.env)).any (·.1) = false := by rfl) :
    PE X (.Call (.Name x p) (e :: es) [] pos) (tE X.K W ow (call fm am)) :=
  PE.of (mk_pe (E := WE W) M F (T.hr.mono hk) hg hm hb (fun σ => L2N.passAt T.tk σ) ha hdb he hpl) fun σ H Q ⟨A, H0, O, en, R, q⟩ => by
    refine ⟨A, H0, O, en, R, (Out.bind q).good fun ds q1 vs H1 s1 r1 y dx hy hdx hne => ?_⟩
    have sm : Same H1 (upd (upd H1 dx (.own y)) y (.ins (ca X.K cls) dx [])) := fun b o e => by
      rw [upd_ne (ne_of_none e hy), upd_ne (ne_of_none e hdx)]
      exact e
    refine ⟨AO A O, y, dx, H1, ds, vs, rfl, rfl, hy, hdx, hne, paired_rep r1, ?_, (R.to s1).there, ?_⟩
    · cases e : fm ds with
      | ok d => exact hn ds d e
      | exc c fs => exact hx ds c fs e
      | stuck =>
        rw [e] at q1
        exact q1.elim
    · exact q1.imp (fun d _ k H2 s2 r2 => ⟨rfl, k _ H2 (s1.trans s2) r2⟩) fun c fs z da H2 fvs s2 q2 r2 => z da H2 fvs (s1.trans s2) q2 r2
end
/-! ### defs -/
section
variable {P : Program} {w : World} {K : Frag} {mg : Str → Option Value} {base : Heap} {name qual : Str} {params : Arguments} {body : List Stmt} {scope : Scope} {dvs : List V} {kws : List (Str × V)} {f : Addr} {fd : FuncData} {N ps : List Str} {k : Nat} {ow oN oB : Ow} {m : SM}
theorem start_get {N : List Str} {vs : List V} {i : Nat} {v : V} (h : vs[i]? = some v) : (L2.start N vs)[i]? = some (some v) := by
  unfold L2.start
  have hi := (List.getElem?_eq_some_iff.mp h).1
  rw [List.getElem?_append_left (by simpa using hi), List.getElem?_map, h]
  rfl
abbrev WD (E : XK) : WX := fun c d _ H => E c d H
/-- a def's start -/
theorem spM_start {E : XK} {vs : List V} {H : Hp} {Q : VK} (hpre : ps.length ≤ N.length) (hx : ow.x = none) (hp : ∀ i, i < ps.length → ow i = false) (h : spM K ps.length (fn ps.length N.length m) vs H Q E) :
    tS3 false K (WD E) ow oN oB m { nx := fun _ H' => Q .non H', rt := Q } (L2.start N vs) H := by
  obtain ⟨AV, ds, r, hl, ha, q⟩ := h
  refine ⟨AV, ⟨H, none⟩, fun _ => none, ds.map some ++ List.replicate (N.length - ps.length) none, ?_, ?_⟩
  · have hlv := r.length
    have hN : ps.length ≤ N.length := hpre
    refine ⟨?_, ha, Same.refl H, fun i d h1 h2 => ?_, fun i d h1 h2 => ?_, fun i a h => (nomatch h), fun i j a h => (nomatch h), fun a h => (nomatch h), XFact.none hx⟩
    · unfold L2.start
      simp only [List.length_append, List.length_map, List.length_replicate]
      omega
    · by_cases hi : i < ds.length
      · rw [List.getElem?_append_left (by simpa using hi), List.getElem?_map, List.getElem?_eq_getElem hi] at h1
        simp only [Option.map_some, Option.some.injEq] at h1
        subst h1
        obtain ⟨v, hv, rv⟩ := r.get (List.getElem?_eq_getElem hi)
        exact ⟨v, start_get hv, Rep.move (Mv.less fun b hb => hb.elim id fun ⟨_, z⟩ => nomatch z) _ _ rv⟩
      · rw [List.getElem?_append_right (by simpa using hi)] at h1
        rw [List.getElem?_replicate] at h1
        split at h1 <;> cases h1
    · by_cases hi : i < ds.length
      · rw [hp i (by omega)] at h2
        cases h2
      · rw [List.getElem?_append_right (by simpa using hi)] at h1
        rw [List.getElem?_replicate] at h1
        split at h1 <;> cases h1
  · unfold fn at q
    rw [if_pos hl] at q
    cases e : m (ds.map some ++ List.replicate (N.length - ps.length) none) with
    | ok fl =>
      rw [e] at q
      cases fl with
      | next e' => exact fun O' σ' H' R' _ => q .non H' R'.same rfl
      | ret d => exact fun v H' s' r' => q v H' s' r'
      | brk e' => exact q.elim
      | cnt e' => exact q.elim
    | exc c fs =>
      rw [e] at q
      exact fun σ' da H' fvs s' q' r' => q da H' fvs s' q' r'
    | stuck =>
      rw [e] at q
      exact q.elim
theorem pre_le {N ps : List Str} (h : N.take ps.length = ps) : ps.length ≤ N.length := by
  have h2 := congrArg List.length h
  rw [List.length_take] at h2
  omega
/-- a def whose body computes m -/
theorem fn_ok (F : FunD K name qual params body scope dvs kws f fd) (S : FnScope N ps scope) (hx : ow.x = none) (hp : ∀ i, i < ps.length → ow i = false)
    (hb : ∀ (cdv : Value) (A : Around) (outer : List PySem.Env) (s : Shared) (H : Hp) (E : XK), Ctx (cxOf (L2N.CX P w) P w K mg base N qual scope f cdv A outer s H E) (WD E) k →
      PSs (cxOf (L2N.CX P w) P w K mg base N qual scope f cdv A outer s H E) body (tS3 false K (WD E) ow oN oB m)) :
    FnOk P w K mg base (L2N.CX P w) (k + 1) f fd ps (spM K ps.length (fn ps.length N.length m)) := by
  refine F.ok S (fun vs H Q E ⟨A, ds, r, h, _⟩ => r.length.symm.trans h) (fun cdv A outer s H vs Q E hr h => ?_)
  exact ⟨tS3 false K (WD E) ow oN oB m, hb cdv A outer s H E ⟨rfl, L2N.takes_of rfl rfl rfl rfl, passes_of rfl, hr, S.nd⟩, spM_start (pre_le S.pre) hx hp h⟩
/-- an __init__ whose body fills self, which stands in slot 0 -/
theorem init_ok {cls : String} (F : FunD K name qual params body scope dvs kws f fd) (S : FnScope N ps scope) (hox : ow.x = none) (h0 : ow 0 = true) (hp0 : 0 < ps.length) (hp : ∀ i, 0 < i → i < ps.length → ow i = false)
    (hb : ∀ (cdv : Value) (A : Around) (outer : List PySem.Env) (s : Shared) (H : Hp) (E : XK), Ctx (cxOf (L2N.CX P w) P w K mg base N qual scope f cdv A outer s H E) (WD E) k →
      PSs (cxOf (L2N.CX P w) P w K mg base N qual scope f cdv A outer s H E) body (tS false K (WD E) ow m)) :
    FnOk P w K mg base (L2N.CX P w) (k + 1) f fd ps (spI K ps.length cls (made ps.length N.length cls m)) := by
  refine F.ok S (fun vs H Q E ⟨A, x, dx, H1, ds, ws, h1, _, _, _, _, r, h, _⟩ => by rw [h1, List.length_cons, ← r.length]; exact h) (fun cdv A outer s H vs Q E hr h => ?_)
  obtain ⟨AV, x, dx, H1, ds, ws, rfl, hH, hx, hdx, hne, r, hl, ha, q⟩ := h
  have sd : Same H1 (upd H1 dx (.own x)) := fun b o e => by
    rw [upd_ne (ne_of_none e hdx)]
    exact e
  have hx2 : upd H1 dx (.own x) x = none := by
    rw [upd_ne fun z => hne z.symm]
    exact hx
  have s2 : Same (upd H1 dx (.own x)) H := by
    rw [hH]
    exact new_same hx2
  have s1 : Same H1 H := sd.trans s2
  refine ⟨tS false K (WD E) ow m, hb cdv A outer s H E ⟨rfl, L2N.takes_of rfl rfl rfl rfl, passes_of rfl, hr, S.nd⟩, AV, ⟨upd H1 dx (.own x), some x⟩, fun i => if i = 0 then some x else none, (some (.ins cls []) :: ds.map some) ++ List.replicate (N.length - ps.length) none, ?_, ?_⟩
  · have hlv := r.length
    have hN : ps.length ≤ N.length := by
      have := S.pre
      have h2 := congrArg List.length this
      rw [List.length_take] at h2
      omega
    have nx : ∀ i a, (if i = 0 then some x else none) = some a → i = 0 ∧ a = x := fun i a h => by
      by_cases hi : i = 0
      · rw [if_pos hi] at h
        cases h
        exact ⟨hi, rfl⟩
      · rw [if_neg hi] at h
        cases h
    have mv : Mv AV H1 (AO AV fun i => if i = 0 then some x else none) H := ⟨fun b hb => by
      rcases hb with hb | ⟨i, hb⟩
      · exact .inl hb
      · rw [(nx i b hb).2]
        exact .inr hx, fun b o e _ => s1 b o e⟩
    refine ⟨?_, fun b hb => ne_none s1 (ha b hb), s2, fun i d h1 h2 => ?_, fun i d h1 h2 => ?_, fun i a h => ?_, fun i j a h h' => (nx i a h).1.trans (nx j a h').1.symm, fun a h => ?_, XFact.none hox⟩
    · unfold L2.start
      simp only [List.length_append, List.length_map, List.length_replicate, List.length_cons]
      omega
    · cases i with
      | zero =>
        rw [h0] at h2
        cases h2
      | succ i =>
        by_cases hi : i < ds.length
        · rw [List.getElem?_append_left (by simpa using hi), List.getElem?_cons_succ, List.getElem?_map, List.getElem?_eq_getElem hi] at h1
          simp only [Option.map_some, Option.some.injEq] at h1
          subst h1
          obtain ⟨v, hv, rv⟩ := r.get (List.getElem?_eq_getElem hi)
          exact ⟨v, start_get (by simpa using hv), Rep.move mv _ _ rv⟩
        · rw [List.getElem?_append_right (by simpa using hi)] at h1
          rw [List.getElem?_replicate] at h1
          split at h1 <;> cases h1
    · cases i with
      | zero =>
        simp only [List.cons_append, List.getElem?_cons_zero, Option.some.injEq] at h1
        subst h1
        refine ⟨x, rfl, start_get rfl, dx, [], ?_, by simp [RepF]⟩
        rw [hH]
        exact upd_same
      | succ i =>
        by_cases hi : i < ds.length
        · rw [hp (i + 1) (by omega) (by omega)] at h2
          cases h2
        · rw [List.getElem?_append_right (by simpa using hi)] at h1
          rw [List.getElem?_replicate] at h1
          split at h1 <;> cases h1
    · obtain ⟨_, rfl⟩ := nx i a h
      refine ⟨hx2, ?_, fun z => ha a z hx⟩
      rw [hH, upd_same]
      exact fun z => nomatch z
    · cases h
      rfl
  · unfold made at q
    rw [if_pos hl] at q
    cases e : m ((some (.ins cls []) :: ds.map some) ++ List.replicate (N.length - ps.length) none) with
    | ok fl =>
      rw [e] at q
      cases fl with
      | next e' =>
        refine fun O' σ' H' R' _ => ?_
        cases e' with
        | nil => exact q.elim
        | cons d0 r0 =>
          cases d0 with
          | none => exact q.elim
          | some d1 =>
            cases d1 with
            | ins c fs =>
              have q2 : ∀ H', Same H1 H' → Rep K AV H' (.ins c fs) (.ref x) → Q .non H' := q
              refine q2 H' (sd.trans R'.same) ?_
              have hpin : O' 0 = some x := R'.pin x rfl
              obtain ⟨a, p1, p2, dx', fvs, p3, p4⟩ := R'.owns 0 (.ins c fs) rfl h0
              rw [hpin] at p1
              cases p1
              simp only [Rep]
              exact ⟨x, dx', fvs, rfl, fun z => ha x z hx, p3, RepF.move (Mv.less fun b => .inl) _ _ p4⟩
            | _ => exact q.elim
      | ret d => exact q.elim
      | brk e' => exact q.elim
      | cnt e' => exact q.elim
    | exc c fs =>
      rw [e] at q
      exact fun σ' da H' fvs s' q' r' => q da H' fvs (sd.trans s') q' r'
    | stuck =>
      rw [e] at q
      exact q.elim
end
end Py
/-! enumerate over tuples and lists. -/
namespace PySem
open Builtin
theorem py_en_new {v : Value} {o : Obj} {H : Heap → Prop} (B : Begins v o H) :
    Meets (Builtin.«enumerate.__new__» ⟨[.type "enumerate", v], []⟩) (fun _ R s => H s.heap ∧
      R (.ok (.ret (.ref (s.heap.push o).objs.size))) { s with heap := (s.heap.push o).push { cls := .type "enumerate", data := .fields #[.none, .bool false, .ref s.heap.objs.size, rawInt 0, .none, .none] } }) :=
  .of_wp fun prog w A R s h => by
    obtain ⟨hp, g, d, tk, os⟩ := s
    obtain ⟨h1, h⟩ := h
    have hsub := sub_enumerate
    have iter1 : ∀ {A' : Around} {E : Value → Shared → Prop} {Q : Value → Shared → Prop}, Q (.ref hp.objs.size) ⟨hp.push o, g, d, tk, os⟩ → wpAny (model prog w) A' (pyIter v) Q E ⟨hp, g, d, tk, os⟩ :=
      fun q => B.iter prog w _ _ ⟨hp, g, d, tk, os⟩ _ h1 q
    wp_walk using iter1
    refine wpAny_stack_any fun st => wpAny_pure ?_
    split
    · rename_i c _ _ _ _ _
      cases (c == Value.type "enumerate")
      · wp_walk using iter1
        exact ⟨_, rfl, h⟩
      · wp_walk using iter1
        exact ⟨_, rfl, h⟩
    · wp_walk using iter1
      exact ⟨_, rfl, h⟩
theorem py_en_call {prog : Program} {w : World} {A : Around} {E : Value → Shared → Prop} {s : Shared} {v : Value} {o : Obj} {H : Heap → Prop} {Q : Value → Shared → Prop} (B : Begins v o H) (h1 : H s.heap)
    (h : ∀ h', IsEnum h' (s.heap.objs.size + 1) s.heap.objs.size 0 .none → h'.get? s.heap.objs.size = some o → h'.objs.size = s.heap.objs.size + 2 →
      (∀ b o, s.heap.get? b = some o → h'.get? b = some o) → Q (.ref (s.heap.objs.size + 1)) { s with heap := h' }) :
    wpAny (model prog w) A (call (.type "enumerate") [v]) Q E s := by
  refine callType_new F.called_enumerate (by decide) (F.typeCall_enumerate_1 _) (F.newCall_enumerate_1 _) (fun obj => F.args_object_init_2 obj _) F.entry_enumerate_new (py_en_new B) ⟨h1, ?_⟩
  have hz : (s.heap.push o).objs.size = s.heap.objs.size + 1 := Heap.size_push ..
  show _ ∧ _
  rw [hz]
  have he : IsEnum ((s.heap.push o).push { cls := .type "enumerate", data := .fields #[.none, .bool false, .ref s.heap.objs.size, rawInt 0, .none, .none] }) (s.heap.objs.size + 1) s.heap.objs.size 0 .none := by
    have this := Heap.get?_push_size (s.heap.push o) (o := { cls := .type "enumerate", data := .fields #[.none, .bool false, .ref s.heap.objs.size, rawInt 0, .none, .none] }) rfl
    rw [hz] at this
    exact this
  exact ⟨⟨_, he, rfl⟩, h _ he (Heap.get?_push_of_some _ (Heap.get?_push_size _ B.free)) (by rw [Heap.size_push, hz]) fun b o x => Heap.get?_push_of_some _ (Heap.get?_push_of_some _ x)⟩
end PySem
namespace Py
open PySem L2
/-- enumerate over the tuple at a -/
def Iet (K : Frag) (a : Addr) : It :=
  ⟨fun i H => ∃ (xs : List V) (x : V), SqT K H a xs ∧ xs[i]? = some x, fun i H v H' => ∃ T x, v = .ref T ∧ H T = none ∧ H' = upd H T (.tup [.int (i : Nat), x]) ∧ ∀ xs, SqT K H a xs → xs[i]? = some x, fun i H => ∃ xs : List V, SqT K H a xs ∧ i = xs.length⟩
theorem turn_enumT {P : Program} {w : World} {K : Frag} {elts : List Expr} {kk : Nat} {tpos : Pos} (a e it : Addr) :
    Turn P w K (.Tuple elts kk tpos) (Iet K a) [e, it] e (fun i h => (∃ old, IsEnum h e it ((i : Nat) : Int) old) ∧ h.IsTupleIter it a i ∧ e ≠ it ∧ a ≠ it ∧ a ≠ e) where
  mem := by simp
  obj := fun i h st b hb => by
    obtain ⟨⟨old, he⟩, ⟨o, ho, hc, hd⟩, _⟩ := st
    rcases (by simpa using hb : b = e ∨ b = it) with z | z
    · subst z
      exact ⟨_, he, fun v q => nomatch q⟩
    · subst z
      exact ⟨o, ho, fun v q => by rw [hd] at q; cases q⟩
  keep := fun i h h' st k => by
    obtain ⟨⟨old, he⟩, hi, n1, n2, n3⟩ := st
    exact ⟨⟨old, k e (by simp) _ he⟩, hi.at fun o q => k it (by simp) o q, n1, n2, n3⟩
  item := by
    intro X hP hw hK hc i pins s σ H E I hf st hg
    subst hP hw hK
    obtain ⟨⟨old, he⟩, hit, n1, n2, n3⟩ := st
    obtain ⟨xs, x, hq, hx⟩ := hg
    obtain ⟨its, rv, tp, hz⟩ := I.tuple hq
    obtain ⟨u, hu, ru⟩ := rv.get hx
    have hel : e < s.heap.objs.size := Heap.lt_size he
    have hil : it < s.heap.objs.size := by
      obtain ⟨_, q, _⟩ := hit
      exact Heap.lt_size q
    have hi : i < its.toArray.size := by
      have := (List.getElem?_eq_some_iff.mp hu).1
      simpa using this
    have htp : s.heap.IsTuple a its.toArray := tp
    refine wpAny_pyNext_enum_itemD (Draws.tuple (prog := X.prog) (w := X.w) (A := X.A.in1) (I.ok.hd hc) it a n2 its.toArray) he (show _ ∧ _ from ⟨hit, htp⟩) hi n1 (by simp [n1, n3.symm]) fun x' h' tk hP' ho hst' hT hsz hk => ?_
    have hxu : x' = u := by
      have q1 : its[i]? = some x' := by simpa using hP'
      rw [hu] at q1
      exact (Option.some.inj q1).symm
    subst hxu
    refine ⟨_, rfl, wpAny_letOwnedTupleGo_enum (s := { s with heap := h', toks := tk + 1 }) ho fun h'' he' sb => ?_⟩
    have hT2 : h''.get? s.heap.objs.size = some { cls := .type "tuple", data := .seq #[.int i tk, x'] } := (sb.2 _ (Nat.ne_of_gt hel)).trans hT
    have new : ObjOk X.prog X.w (upd H s.heap.objs.size (.tup [.int (i : Nat), x])) h'' s.heap.objs.size (.tup [.int (i : Nat), x]) :=
      ⟨by show 2 ≤ sizeLine; decide, [.int i tk, x'], .cons ⟨_, rfl⟩ (.cons ru .nil), ⟨_, hT2, rfl, _, rfl⟩⟩
    have I1 : Inv X pins σ (upd H s.heap.objs.size (.tup [.int (i : Nat), x])) { s with heap := h'', toks := tk + 1 } :=
      I.turnedNew (ch := [e, it]) (fun b ob hb q => (sb.2 b fun z => hb (by simp [z])).trans (hk b ob (fun z => hb (by simp [z])) (fun z => hb (by simp [z])) q)) hf (Nat.le_refl _) new
    refine ⟨.ref s.heap.objs.size, _, I1, rfl, ⟨_, x, rfl, I.hok.fresh (Nat.le_refl _), rfl, fun ys hy => by rw [I.tuple_inj hy hq]; exact hx⟩, ⟨⟨x', ?_⟩, hst'.1.at fun o q => (sb.2 it n1.symm).trans q, n1, n2, n3⟩, fun b hb => ?_⟩
    · have e1 : ((i + 1 : Nat) : Int) = (i : Int) + 1 := by omega
      rw [e1]
      exact he'
    · have hb' : b < s.heap.objs.size := by
        rcases (by simpa using hb : b = e ∨ b = it) with z | z
        · subst z
          exact hel
        · subst z
          exact hil
      rw [upd_ne (Nat.ne_of_lt hb')]
      exact (hf b hb).1
  done := by
    intro X hP hw hK hc i pins s σ H E I hf st hg
    subst hP hw hK
    obtain ⟨⟨old, he⟩, hit, n1, n2, n3⟩ := st
    obtain ⟨xs, hq, hx⟩ := hg
    obtain ⟨its, rv, tp, hz⟩ := I.tuple hq
    obtain ⟨f0, f1, f2, f3, f4, f5⟩ := hf it (by simp)
    have hl := rv.length
    have htp : s.heap.IsTuple a its.toArray := tp
    have hi2 : i = its.toArray.size := by
      rw [List.size_toArray]
      omega
    subst hi2
    exact wpAny_pyNext_enum_endD (Draws.tuple (prog := X.prog) (w := X.w) (A := X.A.in1) (I.ok.hd hc) it a n2 its.toArray) he (show _ ∧ _ from ⟨hit, htp⟩) fun h' eb => ⟨rfl, I.turned (t' := s.toks) (fun b o hb q => eb b o hb q) f0 f1 f3 f4 f5⟩
  self := fun A i s Q E st h => by
    obtain ⟨⟨_, he⟩, _⟩ := st
    exact wpAny_pyIter_enum he h
section
variable {X : Cx} {W : WX} {ow : Ow} {a b c e : Expr} {es elts : List Expr} {m ma mb mc : EM} {pos p tpos : Pos} {kk : Nat}
def iEnumE (K : Frag) (ta : TA) : TI := fun σ H R => ta σ H fun vs H1 => ∃ a, vs = [.ref a] ∧ ((∃ xs, SqL K H1 a xs ∧ R (Ite K a) H1) ∨ ∃ xs, SqT K H1 a xs ∧ R (Iet K a) H1)
theorem pi_enumE {ta : TA} (hg : Gl X "enumerate") (hm : X.mg "enumerate" = none) (ha : PA X [e] ta) (hs : starEach [e] X.env = [(false, eval e X.env)] := by rfl) : PI X (.Tuple elts kk tpos) (.Call (.Name "enumerate" p) [e] [] pos) (iEnumE X.K ta) := by
  refine ⟨fun pins s σ H R I h => ?_⟩
  refine PyProof.Rows.Call_ (ld_blt I hg hm PyProof.Rows.boot_enumerate (PyProof.Rows.callWith_type1 (thn (ha.run pos pins s σ H _ I h) fun us s1 ⟨vs, H1, I1, r1, q1⟩ => ?_) hs rfl))
  obtain ⟨a, ex, q⟩ := q1
  subst ex
  obtain ⟨u, rfl, ru⟩ := vals1 r1
  cases ru
  have fin : ∀ b ∈ [s1.heap.objs.size + 1, s1.heap.objs.size], FpOk X pins H1 b := fun b hb => by
    have hle : s1.heap.objs.size ≤ b := by
      rcases (by simpa using hb : b = s1.heap.objs.size + 1 ∨ b = s1.heap.objs.size) with z | z
      · rw [z]
        exact Nat.le_add_right _ _
      · rw [z]
        exact Nat.le_refl _
    exact I1.fpOk hle (I1.hok.fresh hle)
  rcases q with ⟨xs, hq, q⟩ | ⟨xs, hq, q⟩
  · obtain ⟨its, rv, tp, hz⟩ := I1.list hq
    refine py_en_call (begins_list a its.toArray) tp.isList fun h' he hit hsz hk => wpAny_pyIter_enum he ?_
    exact ⟨s1.heap.objs.size + 1, [s1.heap.objs.size + 1, s1.heap.objs.size], _, _, H1, rfl, I1.kept (t' := s1.toks) hk, turn_enum a (s1.heap.objs.size + 1) s1.heap.objs.size, ⟨⟨.none, he⟩, ⟨_, hit, rfl, rfl⟩, Nat.succ_ne_self _⟩, fin, q⟩
  · obtain ⟨its, rv, tp, hz⟩ := I1.tuple hq
    have hlt : a < s1.heap.objs.size := tp.lt
    refine py_en_call (begins_tuple a its.toArray) tp fun h' he hit hsz hk => wpAny_pyIter_enum he ?_
    exact ⟨s1.heap.objs.size + 1, [s1.heap.objs.size + 1, s1.heap.objs.size], _, _, H1, rfl, I1.kept (t' := s1.toks) hk, turn_enumT a (s1.heap.objs.size + 1) s1.heap.objs.size, ⟨⟨.none, he⟩, ⟨_, hit, rfl, rfl⟩, Nat.succ_ne_self _, Nat.ne_of_lt hlt, Nat.ne_of_lt (Nat.lt_succ_of_lt hlt)⟩, fin, q⟩
theorem enumL_get : ∀ {ds : List D} {n i : Nat} {d : D}, ds[i]? = some d → (enumL n ds)[i]? = some (.tup [.int ((n + i : Nat) : Int), d])
  | [], _, _, _, h => by simp at h
  | x :: ds, n, 0, d, h => by
    simp at h
    subst h
    rfl
  | x :: ds, n, i + 1, d, h => by
    simp only [enumL, List.getElem?_cons_succ]
    rw [enumL_get (n := n + 1) (by simpa using h)]
    rw [Nat.add_right_comm]
    rfl
theorem enumL_len : ∀ (ds : List D) (n : Nat), (enumL n ds).length = ds.length
  | [], _ => rfl
  | x :: ds, n => by
    simp only [enumL, List.length_cons]
    rw [enumL_len ds]
theorem enum_item {K : Frag} {A : AS} {H : Hp} {T : Addr} {i : Nat} {d : D} {v : V} (hn : H T = none) (r : Rep K A H d v) : Same H (upd H T (.tup [.int (i : Nat), v])) ∧ Rep K A (upd H T (.tup [.int (i : Nat), v])) (.tup [.int ((0 + i : Nat) : Int), d]) (.ref T) := by
  refine ⟨new_same hn, new_tup ?_ hn⟩
  rw [Nat.zero_add]
  simp only [RepL]
  exact ⟨_, _, rfl, rfl, v, [], rfl, r, rfl⟩
theorem itm_enumT {K : Frag} {A : AS} {H : Hp} {a : Addr} {ds : List D} {vs : List V} (q : SqT K H a vs) (r : RepL K A H ds vs) : Itm Mv K A (Iet K a) (enumL 0 ds) H := fun i A2 H2 m => by
  have q2 := SqT.move m q
  have r2 := RepL.move m ds vs r
  rw [enumL_len]
  refine ⟨fun hi => ?_, fun hi => ⟨vs, q2, by rw [← r.length]; exact hi⟩⟩
  obtain ⟨v, hv, rv⟩ := r2.get (i := i) (List.getElem?_eq_getElem hi)
  refine ⟨⟨vs, v, q2, hv⟩, fun x H3 ⟨T, x', e1, hn, e2, k⟩ => ?_⟩
  subst e1 e2
  have := k vs q2
  rw [hv] at this
  cases this
  obtain ⟨s1, r1⟩ := enum_item (i := i) hn rv
  exact ⟨s1, _, enumL_get (List.getElem?_eq_getElem hi), r1⟩
theorem itm_enumL {M : MvT} {K : Frag} {A : AS} {H : Hp} {a : Addr} {ds : List D} {vs : List V} (hM : ∀ A2 H2, M A H A2 H2 → Mv A H A2 H2 ∧ Rd H2 a (.lst vs)) (r : RepL K A H ds vs) : Itm M K A (Ite K a) (enumL 0 ds) H := fun i A2 H2 m => by
  obtain ⟨mv, rd⟩ := hM A2 H2 m
  have q2 : SqL K H2 a vs := .inl rd
  have r2 := RepL.move mv ds vs r
  rw [enumL_len]
  refine ⟨fun hi => ?_, fun hi => ⟨vs, q2, by rw [← r.length]; exact Nat.le_of_eq hi.symm⟩⟩
  obtain ⟨v, hv, rv⟩ := r2.get (i := i) (List.getElem?_eq_getElem hi)
  refine ⟨⟨vs, v, q2, hv⟩, fun x H3 ⟨T, x', e1, hn, e2, k⟩ => ?_⟩
  subst e1 e2
  have := k vs q2
  rw [hv] at this
  cases this
  obtain ⟨s1, r1⟩ := enum_item (i := i) hn rv
  exact ⟨s1, _, enumL_get (List.getElem?_eq_getElem hi), r1⟩
theorem i_enum (hg : Gl X "enumerate") (hm : X.mg "enumerate" = none) (ha : PE X a (tE X.K W ow ma)) (hs : starEach [a] X.env = [(false, eval a X.env)] := by rfl) : PI X (.Tuple elts kk tpos) (.Call (.Name "enumerate" p) [a] [] pos) (tI Mv X.K W ow (ienum ma)) :=
  PI.of (pi_enumE hg hm (pa_cons ha pa_nil hs) hs) fun σ H R' ⟨A, H0, O, en, R, q⟩ => ⟨A, H0, O, en, R, (Out.bind (Out.bind q)).good fun d q1 v H1 s1 r1 => by
    cases d with
    | lst xs =>
      obtain ⟨p, vs, rfl, n, h, r⟩ := (by simpa only [Rep] using r1 : ∃ a vs, v = .ref a ∧ ¬ AO A O a ∧ Rd H1 a (.lst vs) ∧ RepL X.K (AO A O) H1 xs vs)
      exact ⟨p, rfl, .inl ⟨vs, .inl h, q1 _ H1 s1 (itm_enumL (fun A2 H2 m => ⟨m, (Rd.move m h n).1⟩) r)⟩⟩
    | tup xs =>
      obtain ⟨p, vs, rfl, h, r⟩ := (by simpa only [Rep] using r1 : ∃ a vs, v = .ref a ∧ SqT X.K H1 a vs ∧ RepL X.K (AO A O) H1 xs vs)
      exact ⟨p, rfl, .inr ⟨vs, h, q1 _ H1 s1 (itm_enumT h r)⟩⟩
    | _ => exact q1.elim⟩
end
end Py
/-! Comprehensions as expressions, what the module's names stand for, the ends. -/
namespace Py
open PySem L2
section
variable {X : Cx} {W : WX} {ow : Ow} {a b c e : Expr} {es : List Expr} {m ma mb mc : EM} {am : AM} {pos p spos : Pos} {k j n : Nat}
variable {elt tg iter : Expr} {ifs : List Expr} {scope : Scope} {own : List (Str × Nat)} {it : IM} {g : GM} {t : TM} {me : EM} {ts : List Nat}
theorem ts_nil : PTs X [] (tT X.K W ow yes) := ⟨fun pins s σ H Q I ⟨A, H0, O, en, R, q⟩ => pts_nil.run pins s σ H Q I (q H (Same.refl H))⟩
/-- [elt for tg in iter if ..] -/
theorem f_lc (T : Ctx X W j) (hi : PI X tg iter (tI Gr X.K W ow it)) (ok : BlkOk X.N X.env.scope scope own)
    (hg : ∀ (s : Shared) (H : Hp) (C : Addr) (cl : List (Str × Addr)) (fp : List Addr), Ctx (X.blk s H scope (compEnvC scope cl C X.env) fp) W0 j → PG (X.blk s H scope (compEnvC scope cl C X.env) fp) tg (tGt X.K ow ts g))
    (ht : ∀ (s : Shared) (H : Hp) (C : Addr) (cl : List (Str × Addr)) (fp : List Addr), Ctx (X.blk s H scope (compEnvC scope cl C X.env) fp) W0 j → PTs (X.blk s H scope (compEnvC scope cl C X.env) fp) ifs (tT X.K W0 ow t))
    (he : ∀ (s : Shared) (H : Hp) (C : Addr) (cl : List (Str × Addr)) (fp : List Addr), Ctx (X.blk s H scope (compEnvC scope cl C X.env) fp) W0 j → PE (X.blk s H scope (compEnvC scope cl C X.env) fp) elt (tE X.K W0 ow me))
    (hts : ∀ i ∈ ts, i ∈ own.map (·.2)) (hx : ow.x = none := by rfl) (hs : ∀ x, foldedSetIterable iter X.env x = pure x := by intro _; rfl) :
    PE X (.ListComp elt [⟨tg, iter, ifs, 0⟩] scope pos) (tF X.K W ow (lcE it (own.map (·.2)) g t me)) :=
  PE.of (pe_lc T.calm T.nd hi ok (fun s H C cl fp => hg s H C cl fp (T.blk ..)) (fun s H C cl fp => ht s H C cl fp (T.blk ..)) (fun s H C cl fp => he s H C cl fp (T.blk ..)) hs) fun _ _ _ h => lc_of hx hts h
/-! ### is True -/
end
/-! ### a try that runs through -/
theorem Ctx.nox {X : Cx} {W : WX} {k : Nat} (c : Ctx X W k) : Ctx X.nox W0 k := ⟨c.calm, takes0N, PassesOwn.never, c.hr, c.nd⟩
section
variable {fr : Bool} {X : Cx} {W : WX} {ow : Ow} {body : List Stmt} {u : SM} {h0 : ExceptHandler} {hs : List ExceptHandler} {pos : Pos} {j : Nat}
theorem s_thru (T : Ctx X W j) (hb : Ctx X.nox W0 j → PSs X.nox body (tS fr X.K W0 ow u)) : PS X (.Try body (h0 :: hs) [] [] pos) (tS fr X.K W ow (thru u)) :=
  PS.of (ps_try_thru0 (hb T.nox)) fun D σ H ⟨A, H0, O, en, R, q⟩ => ⟨A, H0, O, en, R, by
    have q1 : Out (noexc (u en)) (EndOk fr X.K A H0 ow O H D) (badS X.K W A H0) := q
    cases e : u en with
    | ok f =>
      rw [e] at q1
      exact q1
    | exc c fs =>
      rw [e] at q1
      exact q1.elim
    | stuck =>
      rw [e] at q1
      exact q1.elim⟩
end
/-! ### what the module's names stand for -/
/-- the name x calls a def of n parameters that computes fm -/
def CallOk (P : Program) (w : World) (K : Frag) (mg : Str → Option Value) (base : Heap) (k : Nat) (x : Str) (d : He.DefD) (ps : List Str) (n : Nat) (fm : List D → Res D) : Prop := ∃ f fd, mg x = some (.ref f) ∧ PySem.W.keepIn K (.ref f) = true ∧ Binds K fd ps [] ∧ FnOk P w K mg base (L2N.CX P w) k f fd ps (spM K n fm) ∧ Ar n fm ∧ FunD K d.name d.qual d.params d.body d.scope [] [] f fd
/-- the name cls makes an instance -/
def MakeOk (P : Program) (w : World) (K : Frag) (mg : Str → Option Value) (base : Heap) (k : Nat) (cls : String) (n : Nat) (fm : List D → Res D) : Prop := ∃ f fd ps, mg (Str.ofString cls) = some (.ref (ca K cls)) ∧ Mk K (ca K cls) f ∧ Binds K fd ps [] ∧ FnOk P w K mg base (L2N.CX P w) k f fd ps (spI K n cls fm) ∧ (∀ ds d, fm ds = .ok d → ds.length + 1 = n) ∧ ∀ ds c fs, fm ds = .exc c fs → ds.length + 1 = n
section
variable {X : Cx} {W : WX} {ow : Ow} {e : Expr} {es : List Expr} {am : AM} {pos p : Pos} {k j n : Nat} {x : Str} {fm : List D → Res D} {d : He.DefD} {ps : List Str}
theorem x_own1 (T : Ctx X W j) (C : CallOk X.prog X.w X.K X.mg X.base k x d ps n fm) (hk : k ≤ j) (hg : Gl X x) (ha : PA X (e :: es) (aE X.K W ow am)) (hdb : (x == ("__debug__" : Str)) = false := by decide)
    (he : starEach (e :: es) X.env = (false, eval e X.env) :: starEach es X.env := by rfl) (hpl : (backTo pos (starEach es X.env)).any (·.1) = false := by rfl) : PE X (.Call (.Name x p) (e :: es) [] pos) (tE X.K W ow (call fm am)) := by
  obtain ⟨f, fd, h1, h2, h3, h4, h5, _⟩ := C
  exact x_call T h4 h5 hk hg h1 h2 h3 ha hdb he hpl
theorem x_new {cls : String} (T : Ctx X W j) (C : MakeOk X.prog X.w X.K X.mg X.base k cls n fm) (hk : k + 1 ≤ j) (hg : Gl X (Str.ofString cls)) (ha : PA X (e :: es) (aE X.K W ow am)) (hdb : (Str.ofString cls == ("__debug__" : Str)) = false := by decide)
    (he : starEach (e :: es) X.env = (false, eval e X.env) :: starEach es X.env := by rfl) (hpl : (backTo pos (starEach es X.env)).any (·.1) = false := by rfl) : PE X (.Call (.Name (Str.ofString cls) p) (e :: es) [] pos) (tE X.K W ow (call fm am)) := by
  obtain ⟨f, fd, ps, h1, h2, h3, h4, h5, h6⟩ := C
  exact x_make T h2 h4 h5 h6 hk hg h1 h3 ha hdb he hpl
end
/-! ### defs by the head's facts -/
section
variable {P : Program} {w : World} {K : Frag} {mg : Str → Option Value} {base : Heap} {k : Nat} {ow oN oB : Ow} {m : SM} {name qual : Str} {params : Arguments} {body : List Stmt} {scope : Scope} {f : Addr} {N ps : List Str} {p n : Nat}
theorem def_ok {d : He.DefD} (F : ∃ fd, FunD K d.name d.qual d.params d.body d.scope [] [] f fd) (g : mg d.name = some (.ref f)) (S : FnScope N ps d.scope) (hpl : ps.length = p) (hnl : N.length = n) (hp : ∀ i, i < p → ow i = false)
    (hbind : ∀ (kV doc pm : Value) (an : Option Addr) (cdv ct : Value) (us : List Value), us.length = ps.length → bindArgs (PySem.W.fnOf d.name d.qual d.params d.body d.scope .none kV doc pm an cdv ct) ⟨us, []⟩ = pure (ps.zip us))
    (hb : ∀ (cdv : Value) (A : Around) (outer : List PySem.Env) (s : Shared) (H : Hp) (E : XK), Ctx (cxOf (L2N.CX P w) P w K mg base N d.qual d.scope f cdv A outer s H E) (WD E) k →
      PSs (cxOf (L2N.CX P w) P w K mg base N d.qual d.scope f cdv A outer s H E) d.body (tS3 false K (WD E) ow oN oB m)) (hx : ow.x = none := by rfl) : CallOk P w K mg base (k + 1) d.name d ps p (fn p n m) := by
  obtain ⟨fd, F⟩ := F
  subst hpl hnl
  exact ⟨f, fd, g, F.kp, FunD.bindsN F hbind, fn_ok F S hx hp hb, ar_fn, F⟩
theorem ar_made {p n : Nat} {cls : String} {body : SM} : (∀ ds d, made p n cls body ds = .ok d → ds.length + 1 = p) ∧ ∀ ds c fs, made p n cls body ds = .exc c fs → ds.length + 1 = p := by
  refine ⟨fun ds d h => ?_, fun ds c fs h => ?_⟩ <;> (unfold made at h; split at h; (· assumption); (· cases h))
theorem cls_ok {cls : String} (F : ∃ fd, FunD K name qual params body scope [] [] f fd) (g : mg (Str.ofString cls) = some (.ref (ca K cls))) (M : Mk K (ca K cls) f) (S : FnScope N ps scope) (hpl : ps.length = p) (hnl : N.length = n) (h0 : ow 0 = true) (hp0 : 0 < p) (hp : ∀ i, i < p → 0 < i → ow i = false)
    (hbind : ∀ (kV doc pm : Value) (an : Option Addr) (cdv ct : Value) (us : List Value), us.length = ps.length → bindArgs (PySem.W.fnOf name qual params body scope .none kV doc pm an cdv ct) ⟨us, []⟩ = pure (ps.zip us))
    (hb : ∀ (cdv : Value) (A : Around) (outer : List PySem.Env) (s : Shared) (H : Hp) (E : XK), Ctx (cxOf (L2N.CX P w) P w K mg base N qual scope f cdv A outer s H E) (WD E) k →
      PSs (cxOf (L2N.CX P w) P w K mg base N qual scope f cdv A outer s H E) body (tS false K (WD E) ow m)) (hx : ow.x = none := by rfl) : MakeOk P w K mg base (k + 1) cls p (made p n cls m) := by
  obtain ⟨fd, F⟩ := F
  subst hpl hnl
  exact ⟨f, fd, ps, g, M, FunD.bindsN F hbind, init_ok F S hx h0 hp0 (fun i a b => hp i b a) hb, ar_made.1, ar_made.2⟩
end
/-! ### the head's facts, tables, and one more -/
/-! ### a table of texts -/
def TabOk (K : Frag) (w : World) (mg : Str → Option Value) (x : Str) (tab : List (String × Int)) : Prop :=
  ∃ d es n, mg x = some (.ref d) ∧ KDict K w d es n ∧ ∀ z : String, ∃ r, PySem.W.nsIn K d (Str.ofString z) = some r ∧ (tab.lookup z = none → r = none) ∧ ∀ i, tab.lookup z = some i → ∃ t, r = some (.int i t)
theorem lookup_mem {z : String} {i : Int} : ∀ {tab : List (String × Int)}, tab.lookup z = some i → (z, i) ∈ tab
  | [], h => by cases h
  | (y, j) :: r, h => by
    rw [List.lookup_cons] at h
    split at h
    · rename_i e
      have e1 : z = y := by simpa using e
      cases h
      subst e1
      exact List.mem_cons_self
    · exact List.mem_cons_of_mem _ (lookup_mem h)
theorem lookup_no {z : String} : ∀ {tab : List (String × Int)}, tab.lookup z = none → ∀ q ∈ tab, q.1 ≠ z
  | [], _, q, hq => by cases hq
  | (y, j) :: r, h, q, hq => by
    rw [List.lookup_cons] at h
    split at h
    · cases h
    · rename_i e
      rcases List.mem_cons.mp hq with e1 | hq
      · subst e1
        intro e2
        have e2 : y = z := e2
        subst e2
        simp at e
      · exact lookup_no h q hq
theorem tab_keys {P : Params} : ∀ {l : List DictEntry} {ks : List Str}, l.map He.keyOf = He.keysIn P ks → ∀ e ∈ l, ∃ k t, e.key = .str k t ∧ k ∈ ks
  | [], _, _, e, he => by cases he
  | e0 :: r, [], h, _, _ => by cases h
  | e0 :: r, k :: ks, h, e, he => by
    have h1 : He.keyOf e0 :: r.map He.keyOf = some (k, PyData.keyHash P k) :: He.keysIn P ks := h
    injection h1 with h2 h3
    rcases List.mem_cons.mp he with e1 | he
    · subst e1
      unfold He.keyOf at h2
      split at h2
      · rename_i x t q
        have h4 := Option.some.inj h2
        obtain ⟨h5, h6⟩ := Prod.mk.inj h4
        exact ⟨x, t, q, by rw [h5]; exact List.mem_cons_self⟩
      · cases h2
    · obtain ⟨k1, t, e1, m⟩ := tab_keys h3 e he
      exact ⟨k1, t, e1, List.mem_cons_of_mem _ m⟩
theorem tab_ok {K : Frag} {w : World} {mg : Str → Option Value} {x : Str} {tab : List (String × Int)} (hraw : He.dicW K (He.ga K x) = some (He.keysIn w.params (tab.map fun q => Str.ofString q.1))) (hv : He.valsB K (He.ga K x) (tab.map fun q => (Str.ofString q.1, He.Dv.int q.2)) = true) (hg : mg x = some (.ref (He.ga K x))) : TabOk K w mg x tab := by
  obtain ⟨es, n, D⟩ := He.dicW_ok hraw
  refine ⟨_, es, n, hg, D, fun z => ?_⟩
  cases e : tab.lookup z with
  | some i =>
    have m := lookup_mem e
    obtain ⟨u, h1, h2⟩ := He.valsB_ok hv (q := (Str.ofString z, He.Dv.int i)) (List.mem_map.mpr ⟨_, m, rfl⟩)
    refine ⟨_, h1, (fun q => nomatch q), fun j q => ?_⟩
    cases q
    obtain ⟨t, rfl⟩ := (show ∃ t, u = Value.int i t from h2)
    exact ⟨t, rfl⟩
  | none =>
    have no := lookup_no e
    have ks : es.toList.map He.keyOf = He.keysIn w.params (tab.map fun q => Str.ofString q.1) := by
      unfold He.dicW at hraw
      rw [D.at_] at hraw
      have low := D.low
      simp only [low, decide_true, Bool.true_and, Bool.not_false, Bool.and_true] at hraw
      simpa using hraw
    refine ⟨none, ?_, fun _ => rfl, fun j q => nomatch q⟩
    unfold PySem.W.nsIn
    rw [D.at_]
    have ef : es.toList.find? (·.key.isStr (Str.ofString z)) = none := by
      rw [List.find?_eq_none]
      intro ent hent h
      obtain ⟨k, t, e1, m⟩ := tab_keys ks ent hent
      rw [e1] at h
      obtain ⟨q, hq, e2⟩ := List.mem_map.mp m
      have e3 : k = Str.ofString z := by simpa [Value.isStr] using h
      exact no q hq (ofS_inj (e2.trans e3))
    have er : es.toList.any (·.refKey) = false := by
      rw [List.any_eq_false]
      intro ent hent h
      obtain ⟨k, t, e1, m⟩ := tab_keys ks ent hent
      simp [DictEntry.refKey, e1] at h
    simp only [ef, er]
    rfl
/-! ### append -/
theorem s_app1 {fr : Bool} {X : Cx} {W : WX} {ow : Ow} {i : Nat} {o e : Expr} {m : EM} {apos cpos pos : Pos} (ho : PE X o (tVar i)) (h : PE X e (tE X.K W ow m)) (hi : ow i = true)
    (hbase : attributeBase o "append" X.env (eval o X.env) = eval o X.env := by rfl)
    (hfew : ((backTo cpos (starEach [e] X.env)).all (fun x => !x.1) && (backToKw cpos (keywordEach [] X.env)).all (fun x => x.1.isSome)
      && decide (([e] : List Expr).length + ([] : List Keyword).length + (if ([] : List Keyword).isEmpty then 0 else 1) < 30)) = true := by rfl)
    (hline : (apos.endLine == cpos.line) = true := by rfl) (hs : starEach [e] X.env = [(false, eval e X.env)] := by rfl)
    (hsw : swapsWith (.Call (.Attribute o "append" apos) [e] [] cpos) none pos.line X.env = pure false := by rfl) :
    PS X (.Expr (.Call (.Attribute o "append" apos) [e] [] cpos) pos) (tS fr X.K W ow (app i m)) :=
  s_app (ps_expr (pe_bm PySem.F.plainAttrs_list PySem.F.slot_list_append PySem.F.type_list_append mt_append ho (pa_cons h pa_nil hs) hbase hfew hline hs (by rfl)) hsw) hi
/-! ### code that is not reached -/
/-! ### the law -/
end Py
/-! What a head tells, in one place; the law's end. -/
namespace Py
open PySem L2
open He (Fa DefD Tab)
theorem Ctx.eq {X : Cx} {W : WX} {k : Nat} (T : Ctx X W k) : OpR X (compareOp .Eq) (r2 X.K oeq) := y_eq (by have := T.hr.un; omega)
theorem Ctx.ne {X : Cx} {W : WX} {k : Nat} (T : Ctx X W k) : OpR X (compareOp .NotEq) (r2 X.K one) := y_ne (by have := T.hr.un; omega)
theorem ss_dead {fr : Bool} {X : Cx} {W : WX} {ow : Ow} {st : List Stmt} : PSs X st (tS fr X.K W ow dead) := ⟨fun pins s σ H D I ⟨A, H0, O, en, R, q⟩ => (q : False).elim⟩
theorem hv_len : bootBuiltins "len" = some (.builtin "len") := by decide +kernel
theorem hv_sum : bootBuiltins "sum" = some (.builtin "sum") := by decide +kernel
theorem hv_all : bootBuiltins "all" = some (.builtin "all") := by decide +kernel
theorem hv_min : bootBuiltins "min" = some (.builtin "min") := by decide +kernel
theorem hv_int : bootBuiltins "int" = some (.type "int") := by decide +kernel
theorem hv_tuple : bootBuiltins "tuple" = some (.type "tuple") := by decide +kernel
theorem hv_list : bootBuiltins "list" = some (.type "list") := by decide +kernel
theorem hv_bool : bootBuiltins "bool" = some (.type "bool") := by decide +kernel
theorem hv_str : bootBuiltins "str" = some (.type "str") := by decide +kernel
/-! ### the list objects left out -/
def notList (o : Obj) : Bool := match o.cls with
  | .type c => !(decide (c = "list"))
  | _ => true
def noL (K : Frag) : Bool := K.all fun q => notList q.2
theorem klookup_mem {a : Addr} {o : Obj} : ∀ {l : List (Addr × Obj)}, l.lookup a = some o → (a, o) ∈ l
  | [], h => by cases h
  | (b, u) :: r, h => by
    rw [List.lookup_cons] at h
    split at h
    · rename_i e
      have e1 : a = b := by simpa using e
      cases h
      subst e1
      exact List.mem_cons_self
    · exact List.mem_cons_of_mem _ (klookup_mem h)
theorem sqL_rd {K : Frag} (h : noL K = true) {H : Hp} {a : Addr} {vs : List V} (q : SqL K H a vs) : Rd H a (.lst vs) := by
  rcases q with q | ⟨o, its, n, hk, hc, _⟩
  · exact q
  · have m := List.all_eq_true.mp h _ (klookup_mem hk)
    simp [notList, hc] at m
/-! ### facts -/
structure Facts (fa : List Fa) (fn : List DefD) (ts : List Tab) (ms : List (Frag → Bool)) (w : World) (K : Frag) (mg : Str → Option Value) : Prop where
  c : He.SaysT fa fn ts w K
  m : (noL K && ms.all fun m => m K) = true
  h : ∃ h : Heap, K.In h ∧ h.Ns mainGlobals mg
section
variable {fa : List Fa} {fn : List DefD} {ts : List Tab} {ms : List (Frag → Bool)} {w : World} {K : Frag} {mg : Str → Option Value}
theorem Facts.glo (Y : Facts fa fn ts ms w K mg) (i : Nat) {x : Str} (h : fa[i]? = some (.glo x) := by rfl) : mg x = some (.ref (He.ga K x)) := by
  obtain ⟨_, KX, G⟩ := Y.h
  exact He.glo_ok KX G (Y.c.d.fact i h)
theorem Facts.free (Y : Facts fa fn ts ms w K mg) (i : Nat) {x : Str} (h : fa[i]? = some (.free x) := by rfl) : mg x = none := by
  obtain ⟨_, KX, G⟩ := Y.h
  exact He.free_ok KX G (Y.c.d.fact i h)
theorem Facts.mkr (Y : Facts fa fn ts ms w K mg) (i : Nat) {x : String} (h : fa[i]? = some (.mkr (Str.ofString x)) := by rfl) : Mk K (ca K x) (He.ma K (ca K x) "__init__") := He.mkr_ok (Y.c.d.fact i h)
theorem Facts.def_ (Y : Facts fa fn ts ms w K mg) (i : Nat) {d : DefD} (h : fn[i]? = some d := by rfl) : ∃ fd, FunD K d.name d.qual d.params d.body d.scope (d.dvs K) (d.kws K) (He.fAd K d.at_) fd := Y.c.d.def_ i h
theorem Facts.more (Y : Facts fa fn ts ms w K mg) (i : Nat) {m : Frag → Bool} (h : ms[i]? = some m := by rfl) : m K = true := by
  have q := Y.m
  rw [Bool.and_eq_true] at q
  exact List.all_eq_true.mp q.2 m (List.mem_of_getElem? h)
theorem Facts.noL (Y : Facts fa fn ts ms w K mg) : noL K = true := by
  have q := Y.m
  rw [Bool.and_eq_true] at q
  exact q.1
/-- a field's classes -/
def attB (cs : List String) (f : String) (K : Frag) : Bool := cs.all fun c => (Fa.cls (Str.ofString c)).ok K && (Fa.noat (Str.ofString c) (Str.ofString f)).ok K
theorem att_ok {cs : List String} {f : String} (h : attB cs f K = true) : ∀ c ∈ cs, Cls K (ca K c) ∧ NoAttr K (ca K c) (Str.ofString f) := fun c hc => by
  have q := List.all_eq_true.mp h c hc
  rw [Bool.and_eq_true] at q
  exact ⟨He.cls_ok q.1, He.noat_ok q.2⟩
def kitC (cs : List String) (K : Frag) : Bool := kitB K cs
end
/-! ### the law's def -/
section
variable {P : Program} {w : World} {K : Frag} {mg : Str → Option Value} {k : Nat} {ow oN oB : Ow} {m : SM} {qual : Str} {params : Arguments} {body : List Stmt} {scope : Scope} {f : Addr} {N : List Str} {n : Nat}
theorem law_ok (F : ∃ fd, FunD K "law" qual params body scope [] [] f fd) (S : FnScope N ["script"] scope) (hnl : N.length = n) (hp : ow 0 = false)
    (hbind : ∀ (kV doc pm : Value) (an : Option Addr) (cdv ct : Value) (us : List Value), us.length = 1 → bindArgs (PySem.W.fnOf "law" qual params body scope .none kV doc pm an cdv ct) ⟨us, []⟩ = pure ((["script"] : List Str).zip us))
    (hb : ∀ (base : Heap) (cdv : Value) (A : Around) (outer : List PySem.Env) (s : Shared) (H : Hp) (E : XK), Ctx (cxOf (L2N.CX P w) P w K mg base N qual scope f cdv A outer s H E) (WD E) k →
      PSs (cxOf (L2N.CX P w) P w K mg base N qual scope f cdv A outer s H E) body (tS3 false K (WD E) ow oN oB m)) (hx : ow.x = none := by rfl) :
    ∃ fd : FuncData, (∀ (s : Shared) (u : Value), BindsTo s fd ⟨[u], []⟩ [("script", u)]) ∧ ∀ base : Heap, FnOk P w K mg base (L2N.CX P w) (k + 1) f fd ["script"] (spM K 1 (fn 1 n m)) := by
  obtain ⟨fd, F⟩ := F
  subst hnl
  have b := FunD.bindsA (ps := ["script"]) F hbind
  exact ⟨fd, fun s v => b s [v] rfl, fun base => fn_ok F S hx (fun i hi => by
    have : i = 0 := by simpa using hi
    subst this
    exact hp) (hb base)⟩
theorem ints_rep {K : Frag} {A : AS} {H : Hp} : ∀ ns : List Int, RepL K A H (ns.map D.int) (ns.map V.int)
  | [] => by simp [RepL]
  | n :: ns => by
    simp only [List.map_cons, RepL]
    exact ⟨_, _, rfl, rfl, ints_rep ns⟩
/-- what escapes nothing can be handed out -/
theorem cx_none {P : Program} {w : World} {H : Hp} {s : Shared} {e : Value} {s' : Shared} (h : L2N.CX P w [] H s (fun _ _ _ => False) e s') : False := by
  obtain ⟨a, B, H', cls, d, rfl, fl, hok, ub, na, os, ag, hE⟩ := h
  exact hE
open PyProof.Rows in
theorem walk_ofW {l : PySem.W.OpenLaw} {n k : Nat} {q : Program} {loose : List Str} {XP : (Str → Option Value) → Heap → Prop} {YP : World → Heap → Prop} {d : DefRec} {CX : World → CXT} {x : Str}
    (hn : l.most = some n) (hn2 : n ≤ sizeLine) (hdf : d.params.defaults = []) (hr : Room k callerA)
    (F : ∀ (w : World) (mg : Str → Option Value) (fa : Addr) (h : Heap), YP w h → h.Ns mainGlobals mg → mg d.name = some (.ref fa) →
      ∃ (K : PySem.W.Frag) (fd : FuncData) (sp : Sp), K.In h ∧ (∀ (s : Shared) (u : Value), BindsTo s fd ⟨[u], []⟩ [(x, u)]) ∧
        (∀ (H : Hp) (a : Addr) (ns : List Int), ns.length ≤ n → Only H → SqL K H a (ns.map V.int) → sp [.ref a] H (fun v _ => v = .bl true) fun _ _ _ => False) ∧
        ∀ base : Heap, K.In base → base.Ns mainGlobals mg → FnOk l.prog w K mg base (CX w) k fa fd [x] sp)
    (hCX : ∀ (w : World) (H : Hp) (s : Shared) (e : Value) (s' : Shared), CX w [] H s (fun _ _ _ => False) e s' → False) :
    PySem.W.WalkO q loose XP YP l.row.toRowW d [] (fun f vs => PySem.call f vs) := by
  refine Att.attach_call hn hdf fun w s₀ s₁ mg mb fa o pm cd doc a vs ns G Y ho hd hcd hmg hobj hints hlen hg => ?_
  obtain ⟨K, fd, sp, KX, hb, hsp, hF⟩ := F w mg fa _ Y G.T.g hmg
  exact law_call KX G.T.g G.T.b G.T.builtins G.T.nolimit hg hobj hints (Nat.le_trans hlen hn2) hr hF hb (fun H hO hS => hsp H a ns hlen hO hS) fun H e s' => hCX w H s₁ e s'
/-- what the law computes is True: the law holds -/
theorem sp_law {K : Frag} {fm : List D → Res D} (hL : noL K = true) {H : Hp} {a : Addr} {ns : List Int} (hm : fm [.lst (ns.map .int)] = .ok (.bl true)) (hS : SqL K H a (ns.map V.int)) :
    spM K 1 fm [.ref a] H (fun v _ => v = .bl true) fun _ _ _ => False := by
  refine ⟨fun _ => False, [.lst (ns.map .int)], ?_, rfl, fun _ h => h.elim, ?_⟩
  · simp only [RepL]
    refine ⟨_, _, rfl, ?_, rfl⟩
    simp only [Rep]
    exact ⟨a, _, rfl, id, sqL_rd hL hS, ints_rep ns⟩
  · rw [hm]
    exact fun v H' _ r => r
end
end Py
/-! Methods of own classes, zip, constants of the module, |=. -/
namespace Py
open PySem L2
open He (Fa DefD Tab)
/-! ### methods -/
structure MethOk (P : Program) (w : World) (K : Frag) (mg : Str → Option Value) (base : Heap) (k : Nat) (cls mn : String) (n : Nat) (fm : List D → Res D) : Prop where
  ex : ∃ f fd ps, Cls K (ca K cls) ∧ Meth K (ca K cls) (Str.ofString mn) f ∧ Binds K fd ps [] ∧ FnOk P w K mg base (L2N.CX P w) k f fd ps (spM K n fm) ∧ Ar n fm
section
variable {X : Cx} {W : WX} {ow : Ow} {o e : Expr} {es : List Expr} {ma : EM} {am : AM} {pos apos : Pos} {k j n : Nat} {cls mn : String} {fm : List D → Res D}
theorem meth_of {C : Addr} {m : Str} {fm : List D → Res D} (hC : C = ca X.K cls) (hm : m = Str.ofString mn) (hn : Ar n fm) (hW : ∀ c d σ σ' H, W c d σ H → W c d σ' H) {σ : L2.St} {H : Hp} {Q : VK}
    (h : tE X.K W ow (callM cls mn fm ma am) σ H Q) : tMeth C m (spM X.K n fm) [] (fun c d H => ∀ σ, W c d σ H) (tE X.K W ow ma) (aE X.K W ow am) σ H Q := by
  subst hC hm
  obtain ⟨A, H0, O, en, R, q⟩ := h
  refine ⟨A, H0, O, en, R, (Out.bind q).good fun d q1 v H1 s1 r1 => ?_⟩
  cases d with
  | ins c' fs =>
    simp only at q1
    split at q1
    · rename_i hc
      obtain ⟨rfl, hl⟩ := hc
      obtain ⟨p, dx, fvs, rfl, na, q2, r2⟩ := (by simpa only [Rep] using r1 : ∃ a dx fvs, v = .ref a ∧ ¬ AO A O a ∧ H1 a = some (.ins (ca X.K c') dx fvs) ∧ RepF X.K (AO A O) H1 fs fvs)
      have lk := r2.look (f := mn)
      have hl2 : fs.lookup mn = none := Option.isNone_iff_eq_none.mp hl
      rw [hl2] at lk
      refine ⟨p, dx, fvs, rfl, q2, lk, A, H0, O, en, R.to s1, ((Out.bind q1).to s1).good fun ds q3 vs H2 s2 r3 => ?_⟩
      dsimp only
      rw [List.append_nil]
      refine ⟨AO A O, .ins c' fs :: ds, ?_, ?_, ((R.to s1).to s2).there, q3.imp (fun d _ k v H3 s3 r3 => k v H3 ((s1.trans s2).trans s3) r3) fun c fs2 z da H3 fvs2 s3 q4 r4 σ' => hW _ _ _ σ' _ (z da H3 fvs2 ((s1.trans s2).trans s3) q4 r4)⟩
      · simp only [RepL]
        exact ⟨_, vs, rfl, Rep.move (Mv.same s2) _ _ r1, paired_rep r3⟩
      · cases e : fm (.ins c' fs :: ds) with
        | ok d => exact hn.ok _ d e
        | exc c fs => exact hn.ex _ c fs e
        | stuck =>
          rw [e] at q3
          exact q3.elim
    · exact q1.elim
  | _ => exact q1.elim
theorem x_meth {pl : Sem Bool} {m : Str} (hm : m = Str.ofString mn) (T : Ctx X W j) (C : MethOk X.prog X.w X.K X.mg X.base k cls mn n fm) (hk : k ≤ j) (hW : ∀ c d σ σ' H, W c d σ H → W c d σ' H) (ho : PE X o (tE X.K W ow ma)) (ha : PA X (e :: es) (aE X.K W ow am))
    (hst : starEach (e :: es) X.env = (false, eval e X.env) :: starEach es X.env := by rfl) (hpl : (backTo pos (starEach es X.env)).any (·.1) = false := by rfl)
    (ht : eval (.Call (.Attribute o m apos) (e :: es) [] pos) X.env = (do
      let ov ← eval o X.env
      standAt apos.atName
      let (f, first) ← holding [ov] (getMethod ov m pl)
      callWith pos f first (backTo pos (starEach (e :: es) X.env)) (backToKw pos (keywordEach [] X.env))) := by rfl) :
    PE X (.Call (.Attribute o m apos) (e :: es) [] pos) (tE X.K W ow (callM cls mn fm ma am)) := by
  obtain ⟨f, fd, ps, h1, h2, h3, h4, h5⟩ := C.ex
  subst hm
  exact PE.of (pe_meth (E := fun c d H => ∀ σ, W c d σ H) ho h1 h2 h4 (T.hr.mono hk) h3 .nil (L2N.passes_call T.tk fun c d σ H h => h σ) ha hst hpl ht) fun σ H Q h => meth_of rfl rfl h5 hW h
end
section
variable {P : Program} {w : World} {K : Frag} {mg : Str → Option Value} {base : Heap} {k : Nat} {ow oN oB : Ow} {m : SM} {f : Addr} {N ps : List Str} {p n : Nat} {cls mn : String}
theorem meth_def {d : He.DefD} (F : ∃ fd, FunD K d.name d.qual d.params d.body d.scope [] [] f fd) (hc : Cls K (ca K cls)) (hme : Meth K (ca K cls) (Str.ofString mn) f) (S : FnScope N ps d.scope) (hpl : ps.length = p) (hnl : N.length = n) (hp : ∀ i, i < p → ow i = false)
    (hbind : ∀ (kV doc pm : Value) (an : Option Addr) (cdv ct : Value) (us : List Value), us.length = ps.length → bindArgs (PySem.W.fnOf d.name d.qual d.params d.body d.scope .none kV doc pm an cdv ct) ⟨us, []⟩ = pure (ps.zip us))
    (hb : ∀ (cdv : Value) (A : Around) (outer : List PySem.Env) (s : Shared) (H : Hp) (E : XK), Ctx (cxOf (L2N.CX P w) P w K mg base N d.qual d.scope f cdv A outer s H E) (WD E) k →
      PSs (cxOf (L2N.CX P w) P w K mg base N d.qual d.scope f cdv A outer s H E) d.body (tS3 false K (WD E) ow oN oB m)) (hx : ow.x = none := by rfl) : MethOk P w K mg base (k + 1) cls mn p (fn p n m) := by
  obtain ⟨fd, F⟩ := F
  subst hpl hnl
  exact ⟨f, fd, ps, hc, hme, FunD.bindsN F hbind, fn_ok F S hx hp hb, ar_fn⟩
end
section
variable {fa : List Fa} {fn : List DefD} {ts : List Tab} {ms : List (Frag → Bool)} {w : World} {K : Frag} {mg : Str → Option Value}
theorem Facts.cls (Y : Facts fa fn ts ms w K mg) (i : Nat) {x : String} (h : fa[i]? = some (.cls (Str.ofString x)) := by rfl) : Cls K (ca K x) := He.cls_ok (Y.c.d.fact i h)
theorem Facts.meth (Y : Facts fa fn ts ms w K mg) (i : Nat) {x : String} {m : Str} (h : fa[i]? = some (.meth (Str.ofString x) m) := by rfl) : Meth K (ca K x) m (He.ma K (ca K x) m) := He.meth_ok (Y.c.d.fact i h)
theorem Facts.int (Y : Facts fa fn ts ms w K mg) (i : Nat) {x : Str} {z : Int} (h : fa[i]? = some (.int x z) := by rfl) : ∃ t, mg x = some (.int z t) := by
  obtain ⟨_, KX, G⟩ := Y.h
  exact He.int_ok KX G (Y.c.d.fact i h)
theorem Facts.str (Y : Facts fa fn ts ms w K mg) (i : Nat) {x z : Str} (h : fa[i]? = some (.str x z) := by rfl) : ∃ t, mg x = some (.str z t) := by
  obtain ⟨_, KX, G⟩ := Y.h
  exact He.str_ok KX G (Y.c.d.fact i h)
end
/-! ### another name of a def -/
/-! ### zip -/
/-! ### x |= y -/
end Py
namespace Py
open PySem PySem.Spec PyProof.Rows L2
/-! ### zip over any two of lists and tuples: k = true: a tuple -/
def IAt (k : Bool) (h : Heap) (it l : Addr) (i : Nat) : Prop := match k with | true => h.IsTupleIter it l i | false => h.IsListIter it l i
def SAt (k : Bool) (h : Heap) (l : Addr) (xs : Array Value) : Prop := match k with | true => h.IsTuple l xs | false => h.IsList l xs
theorem IAt.some {k : Bool} {h : Heap} {it l : Addr} {i : Nat} (x : IAt k h it l i) : ∃ o, h.get? it = some o ∧ ∀ v, o.data ≠ .cell v := by
  cases k with
  | true => obtain ⟨o, ho, _, d⟩ := x; exact ⟨o, ho, fun v q => by rw [d] at q; cases q⟩
  | false => obtain ⟨o, ho, _, d⟩ := x; exact ⟨o, ho, fun v q => by rw [d] at q; cases q⟩
section
variable {prog : Program} {w : World} {A : Around} {E : Value → Shared → Prop} {s : Shared}
theorem draw1 {k : Bool} {it l : Addr} {i : Nat} {xs : Array Value} {x : Value} {Q : Value → Shared → Prop} (a : IAt k s.heap it l i) (b : SAt k s.heap l xs) (hx : xs[i]? = some x)
    (q : ∀ h', IAt k h' it l (i + 1) → Heap.SameBut it s.heap h' → Q x { s with heap := h' }) : wpAny (model prog w) A (Builtin.SmallTypes.nextOf (.ref it)) Q E s := by
  cases k with
  | true => exact RZ.nextOf_tuple_item a b hx q
  | false => exact wpAny_nextOf_list_item a b hx q
end
/-! the turn -/
def SqK (k : Bool) (K : Frag) (H : Hp) (a : Addr) (xs : List V) : Prop := match k with | true => SqT K H a xs | false => SqL K H a xs
theorem SqK.at {k : Bool} {X : Cx} {pins : List (Addr × Obj)} {σ : L2.St} {H : Hp} {s : Shared} {a : Addr} {xs : List V} (I : Inv X pins σ H s) (q : SqK k X.K H a xs) : ∃ its, Vals xs its ∧ SAt k s.heap a its.toArray ∧ a < s.heap.objs.size := by
  cases k with
  | true =>
    obtain ⟨its, r, p, _⟩ := I.tuple q
    obtain ⟨o, ho, _⟩ := id p
    exact ⟨its, r, p, Heap.lt_size ho⟩
  | false =>
    obtain ⟨its, r, p, _⟩ := I.list q
    exact ⟨its, r, p.isList, p.lt⟩
theorem SqK.inj {k : Bool} {X : Cx} {pins : List (Addr × Obj)} {σ : L2.St} {H : Hp} {s : Shared} {a : Addr} {xs ys : List V} (I : Inv X pins σ H s) (q : SqK k X.K H a xs) (q' : SqK k X.K H a ys) : xs = ys := by
  cases k with
  | true => exact I.tuple_inj q q'
  | false => exact I.list_inj q q'
/-! ### zip in the mirror -/
end Py
/-! Who owns what, statement by statement. -/
namespace Py
open PySem L2
/-- the names that own what they hold -/
def ownS : List Nat → Nat → Bool
  | [], _ => false
  | j :: l, i => i == j || ownS l i
theorem owS_mem : ∀ {l : List Nat} {i : Nat}, ownS l i = true → i ∈ l
  | j :: l, i, h => by
    unfold ownS at h
    rw [Bool.or_eq_true] at h
    rcases h with h | h
    · exact List.mem_cons.mpr (.inl (by simpa using h))
    · exact List.mem_cons_of_mem _ (owS_mem h)
theorem owS_le {l l' : List Nat} (h : (l'.all fun i => ownS l i) = true) : ∀ i, ownS l' i = true → ownS l i = true := fun i hi => List.all_eq_true.mp h i (owS_mem hi)
theorem owS_add {l l' : List Nat} {i : Nat} (h : (l'.all fun j => j == i || ownS l j) = true ∧ ownS l' i = true ∧ (l.all fun j => ownS l' j) = true) : ∀ j, ownS l' j = (j == i || ownS l j) := fun j => by
  obtain ⟨h1, h2, h3⟩ := h
  cases e : ownS l' j with
  | true => exact (List.all_eq_true.mp h1 j (owS_mem e)).symm
  | false =>
    cases e2 : (j == i || ownS l j) with
    | false => rfl
    | true =>
      rw [Bool.or_eq_true] at e2
      rcases e2 with e2 | e2
      · rw [show j = i by simpa using e2, h2] at e
        cases e
      · rw [List.all_eq_true.mp h3 j (owS_mem e2)] at e
        cases e
abbrev owS (l : List Nat) : Ow := ⟨ownS l, none⟩
/-- .. while an error is held -/
abbrev Ow.hold (o : Ow) (i : Nat) (a da : Addr) (fs : List (String × D)) : Ow := ⟨fun j => j == i || o j, some ⟨i, a, da, fs⟩⟩
/-- the new owners know no more of an error -/
def XLe (o1 o : Ow) : Prop := o1.x = none ∨ (o1.x = o.x ∧ ∀ q, o1.x = some q → o q.i = true → o1 q.i = true)
theorem XLe.refl {o : Ow} : XLe o o := .inr ⟨rfl, fun _ _ z => z⟩
theorem XFact.cut {K : Frag} {A : AS} {H : Hp} {σ : L2.St} {e : Env} {o o1 : Ow} (h : XFact K A H σ e o) (l : XLe o1 o) : XFact K A H σ e o1 := fun q hq => by
  rcases l with l | ⟨l1, l2⟩
  · rw [l] at hq
    cases hq
  · obtain ⟨h1, h2, h3, h4⟩ := h q (l1 ▸ hq)
    exact ⟨l2 q hq h1, h2, h3, h4⟩
section
variable {fr : Bool} {K : Frag} {A : AS} {H0 : Base} {ow o1 oN oB : Ow} {O : OW} {σ : L2.St} {H H' : Hp} {e : Env}
def cutO (ow o1 : Ow) (O : OW) : OW := fun i => if ow i = true ∧ o1 i = false then none else O i
theorem cutO_some {i : Nat} {a : Addr} (h : cutO ow o1 O i = some a) : O i = some a := by
  unfold cutO at h
  split at h
  · cases h
  · exact h
theorem cut_less : ∀ a, AO A (cutO ow o1 O) a → AO A O a := fun a h => h.elim .inl fun ⟨i, q⟩ => .inr ⟨i, cutO_some q⟩
/-- some names give up what they own -/
theorem ER.part (R : ER K A H0 ow O σ H e) (h : ∀ i, o1 i = true → ow i = true) (h0 : ow 0 = true → o1 0 = true) (hx : XLe o1 ow) : ER K A H0 o1 (cutO ow o1 O) σ H e := by
  have mv : Mv (AO A O) H (AO A (cutO ow o1 O)) H := Mv.less cut_less
  have stay : ∀ i, o1 i = true → cutO ow o1 O i = O i := fun i hi => by
    unfold cutO
    rw [if_neg]
    rintro ⟨_, z⟩
    rw [hi] at z
    cases z
  refine ⟨R.len, R.a0, R.same, fun i d h1 h2 => ?_, fun i d h1 h2 => ?_, fun i a q => R.fresh i a (cutO_some q), fun i j a q q' => R.inj i j a (cutO_some q) (cutO_some q'), fun a q => ?_, (R.exq.heap mv fun _ _ e => e).cut hx⟩
  · cases hi : ow i with
    | false =>
      obtain ⟨v, q, r⟩ := R.vals i d h1 hi
      exact ⟨v, q, Rep.move mv _ _ r⟩
    | true =>
      obtain ⟨a, q, q2, r⟩ := R.owns i d h1 hi
      refine ⟨.ref a, q2, ?_⟩
      have na : ¬ AO A (cutO ow o1 O) a := by
        rintro (z | ⟨j, z⟩)
        · exact (R.fresh i a q).2.2 z
        · have e1 := R.inj i j a q (cutO_some z)
          subst e1
          unfold cutO at z
          rw [if_pos ⟨hi, h2⟩] at z
          cases z
      cases d with
      | lst ds =>
        obtain ⟨vs, e1, r1⟩ := r
        simp only [Rep]
        exact ⟨a, vs, rfl, na, .inl e1, RepL.move mv _ _ r1⟩
      | ins c fs =>
        obtain ⟨dx, fvs, e1, r1⟩ := r
        simp only [Rep]
        exact ⟨a, dx, fvs, rfl, na, e1, RepF.move mv _ _ r1⟩
      | _ => exact r.elim
  · obtain ⟨a, q, q2, r⟩ := R.owns i d h1 (h i h2)
    exact ⟨a, (stay i h2).trans q, q2, r.move mv rfl⟩
  · have q0 := R.pin a q
    unfold cutO
    rw [if_neg]
    · exact q0
    · rintro ⟨z1, z2⟩
      rw [h0 z1] at z2
      cases z2
/-- a name is to own what comes next -/
theorem ER.opens (R : ER K A H0 ow O σ H e) {i : Nat} (hi : ow i = false) (hN : ∀ j, oN j = (j == i || ow j)) (hx : XLe oN ow) : ER K A H0 oN O σ H (e.set i none) := by
  have other : ∀ j d, (e.set i none)[j]? = some (some d) → i ≠ j ∧ e[j]? = some (some d) := fun j d h => by
    by_cases hj : i = j
    · subst hj
      have hl : i < e.length := by
        have := (List.getElem?_eq_some_iff.mp h).1
        simpa using this
      rw [List.getElem?_set_self hl] at h
      cases h
    · rw [List.getElem?_set_ne hj] at h
      exact ⟨hj, h⟩
  refine ⟨by simp [R.len], R.a0, R.same, fun j d h1 h2 => ?_, fun j d h1 h2 => ?_, R.fresh, R.inj, R.pin, (R.exq.move Mv.refl (fun _ _ e => e) fun j hj n => ?_).cut hx⟩
  rotate_right
  · have hne : i ≠ j := fun z => by
      rw [z, hj] at hi
      cases hi
    rw [List.getElem?_set_ne hne]
    exact ⟨rfl, n⟩
  · obtain ⟨hj, h3⟩ := other j d h1
    rw [hN, show (j == i) = false by simpa using fun z => hj z.symm, Bool.false_or] at h2
    exact R.vals j d h3 h2
  · obtain ⟨hj, h3⟩ := other j d h1
    rw [hN, show (j == i) = false by simpa using fun z => hj z.symm, Bool.false_or] at h2
    exact R.owns j d h3 h2
theorem EndOk3.le {o1 oB1 : Ow} {D : Ends} (hN : ∀ i, oN i = true → o1 i = true) (hN0 : o1 0 = true → oN 0 = true) (hB : ∀ i, oB i = true → oB1 i = true) (hB0 : oB1 0 = true → oB 0 = true) (hNx : XLe oN o1) (hBx : XLe oB oB1) : ∀ {f : Fl}, EndOk3 fr K A H0 oN oB O H D f → EndOk3 fr K A H0 o1 oB1 O H D f
  | .next _, h => fun O' σ' H' R n => h _ σ' H' (R.part hN hN0 hNx) (n.trans (Mv.less cut_less))
  | .ret _, h => h
  | .brk _, h => fun O' σ' H' R n => h _ σ' H' (R.part hB hB0 hBx) (n.trans (Mv.less cut_less))
  | .cnt _, h => fun O' σ' H' R n => h _ σ' H' (R.part hB hB0 hBx) (n.trans (Mv.less cut_less))
end
section
variable {fr : Bool} {X : Cx} {W : WX} {ow o1 oN oB : Ow} {a b c e : Expr} {es : List Expr} {m ma mb mc : EM} {st : Stmt} {rest body orelse : List Stmt} {u v : SM} {t : TM} {pos : Pos} {j : Nat}
/-- a statement that changes no owner -/
theorem s_up (h : PS X st (tS fr X.K W ow u)) (hB : ∀ i, oB i = true → ow i = true) (hB0 : ow 0 = true → oB 0 = true) (hx : XLe oB ow := by first | exact Or.inl rfl | exact XLe.refl | exact Or.inr ⟨rfl, by intro q z; cases z; intro _; rfl⟩) : PS X st (tS3 fr X.K W ow ow oB u) :=
  PS.of h fun D σ H ⟨A, H0, O, en, R, q⟩ => ⟨A, H0, O, en, R, q.good fun f q1 => q1.le (fun _ z => z) (fun z => z) hB hB0 XLe.refl hx⟩
theorem c_nil : PSs X [] (tS3 fr X.K W ow ow oB skip) := PSs.of pss_nil fun D σ H ⟨A, H0, O, en, R, q⟩ => q O σ H R Mv.refl
theorem c_one (h : PS X st (tS3 fr X.K W ow oN oB u)) : PSs X [st] (tS3 fr X.K W ow oN oB u) := pss_one h
theorem c_cons (h : PS X st (tS3 fr X.K W ow o1 oB u)) (k : PSs X rest (tS3 fr X.K W o1 oN oB v)) : PSs X (st :: rest) (tS3 fr X.K W ow oN oB (seq u v)) :=
  PSs.of (pss_cons h k) fun D σ H ⟨A, H0, O, en, R, q⟩ => ⟨A, H0, O, en, R, (Out.bind q).good fun f q1 => by
    cases f with
    | next e' => exact fun O' σ' H' R' mv => ⟨A, H0, O', e', R', q1.good fun f q2 => q2.to mv⟩
    | ret d => exact q1
    | brk e' => exact q1
    | cnt e' => exact q1⟩
/-- names give up what they own -/
theorem c_cut (h : PSs X rest (tS3 fr X.K W o1 oN oB v)) (h1 : ∀ i, o1 i = true → ow i = true) (h0 : ow 0 = true → o1 0 = true) (hx : XLe o1 ow := by first | exact Or.inl rfl | exact XLe.refl | exact Or.inr ⟨rfl, by intro q z; cases z; intro _; rfl⟩) : PSs X rest (tS3 fr X.K W ow oN oB v) :=
  PSs.of h fun D σ H ⟨A, H0, O, en, R, q⟩ => ⟨A, H0, _, en, R.part h1 h0 hx, q.good fun f q1 => q1.to (Mv.less cut_less)⟩
/-- a name gets a new object of its own -/
theorem c_own {i : Nat} (h : PS X st (tAsg (tF X.K W ow m) (gName i))) (hi : ow i = false) (hN : ∀ j, oN j = (j == i || ow j)) (h0 : 0 < i := by decide) (hx : XLe oN ow := by first | exact Or.inl rfl | exact XLe.refl | exact Or.inr ⟨rfl, by intro q z; cases z; intro _; rfl⟩) : PS X st (tS3 fr X.K W ow oN oB (asg (gnm i) m)) :=
  PS.of h fun D σ H ⟨A, H0, O, en, R, q⟩ => ⟨A, H0, O, en, R, ((Out.bind q).se R).good fun d q1 a H1 n s1 r1 => by
    have hNi : oN i = true := by rw [hN]; simp
    have hxi : ∀ q, oN.x = some q → q.i ≠ i := fun q hq z => by
      rcases hx with hx | ⟨hx, _⟩
      · rw [hx] at hq
        cases hq
      · have z2 := (R.exq q (hx ▸ hq)).own
        rw [z, hi] at z2
        cases z2
    obtain ⟨R2, mv⟩ := (R.opens hi hN hx).take s1 hxi hNi h0 n r1
    rw [List.set_set] at R2
    exact q1 _ _ H1 R2 mv⟩
theorem c_if (hc : PT X a (tT X.K W ow t)) (hb : PSs X body (tS3 fr X.K W ow oN oB u)) (ho : PSs X orelse (tS3 fr X.K W ow oN oB v)) : PS X (.If a body orelse pos) (tS3 fr X.K W ow oN oB (ite t u v)) :=
  PS.of (ps_if hc hb ho) fun D σ H ⟨A, H0, O, en, R, q⟩ => ⟨A, H0, O, en, R, ((Out.bind q).se R).good fun k q1 H1 s1 => by
    cases k with
    | true =>
      rw [if_pos rfl] at q1 ⊢
      exact ⟨A, H0, O, en, R.to s1, q1.good fun f q2 => q2.to (Mv.same s1)⟩
    | false =>
      rw [if_neg (by decide)] at q1 ⊢
      exact ⟨A, H0, O, en, R.to s1, q1.good fun f q2 => q2.to (Mv.same s1)⟩⟩
end
end Py
/-! Defs that give back a new list: their caller owns it. -/
namespace Py
open PySem L2
def spF (K : Frag) (p : Nat) (m : List D → Res D) : Sp := fun vs H Q E => ∃ A ds, RepL K A H ds vs ∧ ds.length = p ∧ (∀ a, A a → H a ≠ none) ∧
  Out (m ds) (fun d => (d = .non → ∀ H', Same H H' → Q .non H') ∧ ∀ a H', H a = none → Same H H' → OwnAt K (fun b => A b ∨ b = a) H' a d → Q (.ref a) H') (fun c fs => ∀ da H' fvs, Same H H' → H' da = some (.xd fvs) → RepF K A H' fs fvs → E (.ref (ca K c)) (some da) H')
theorem spF_le {K : Frag} {p : Nat} {m : List D → Res D} {vs : List V} {H : Hp} {Q : VK} {E : XK} (h : spM K p m vs H Q E) : spF K p m vs H Q E := by
  obtain ⟨A, ds, r, hl, ha, q⟩ := h
  refine ⟨A, ds, r, hl, ha, q.good fun d k => ⟨fun e H' s => ?_, fun a H' n s o => k (.ref a) H' s ?_⟩⟩
  · subst e
    exact k .non H' s rfl
  · have na : ¬ A a := fun z => ha a z n
    have mv : Mv (fun b => A b ∨ b = a) H' A H' := Mv.less fun b x => .inl x
    cases d with
    | lst ds =>
      obtain ⟨vs, e1, r1⟩ := o
      simp only [Rep]
      exact ⟨a, vs, rfl, na, .inl e1, RepL.move mv _ _ r1⟩
    | ins c fs =>
      obtain ⟨dx, fvs, e1, r1⟩ := o
      simp only [Rep]
      exact ⟨a, dx, fvs, rfl, na, e1, RepF.move mv _ _ r1⟩
    | _ => exact o.elim
/-- the name x calls a def that gives back a new list -/
def CallF (P : Program) (w : World) (K : Frag) (mg : Str → Option Value) (base : Heap) (k : Nat) (x : Str) (d : He.DefD) (ps : List Str) (n : Nat) (fm : List D → Res D) : Prop := ∃ f fd, mg x = some (.ref f) ∧ PySem.W.keepIn K (.ref f) = true ∧ Binds K fd ps [] ∧ FnOk P w K mg base (L2N.CX P w) k f fd ps (spF K n fm) ∧ Ar n fm ∧ FunD K d.name d.qual d.params d.body d.scope [] [] f fd
theorem CallF.le {P : Program} {w : World} {K : Frag} {mg : Str → Option Value} {base : Heap} {k : Nat} {x : Str} {d : He.DefD} {ps : List Str} {n : Nat} {fm : List D → Res D} (C : CallF P w K mg base k x d ps n fm) : CallOk P w K mg base k x d ps n fm := by
  obtain ⟨f, fd, h1, h2, h3, h4, h5⟩ := C
  exact ⟨f, fd, h1, h2, h3, h4.imp fun _ _ _ _ z => spF_le z, h5⟩
end Py
/-! More expressions. -/
namespace Py
open PySem L2
theorem RepL.flat {K : Frag} {A : AS} {H : Hp} {ds : List D} {vs : List V} (h : RepL K A H ds vs) : ∀ n : Nat, RepL K A H (List.replicate n ds).flatten (List.replicate n vs).flatten
  | 0 => by simp [RepL]
  | n + 1 => by
    rw [List.replicate_succ, List.replicate_succ, List.flatten_cons, List.flatten_cons]
    exact h.append (RepL.flat h n)
section
variable {X : Cx} {W : WX} {ow : Ow} {a b : Expr} {ma mb : EM} {pos : Pos}
/-- [..] * n -/
theorem f_rep (ha : PE X a (tF X.K W ow ma)) (hb : PE X b (tW X.K W ow mb)) : PE X (.BinOp a .Mult b pos) (tF X.K W ow (bin olrep ma mb)) :=
  PE.of (pe_op op_rep ha hb) fun σ H Q ⟨A, H0, O, en, R, q⟩ => by
    refine ⟨A, H0, O, en, R, (Out.bind q).good fun d1 q1 l H1 n1 s1 r1 => ?_⟩
    refine ⟨A, H0, O, en, R.to s1, ((Out.bind q1).to s1).good fun d2 q2 v2 H2 s2 r2 => ?_⟩
    cases d1 with
    | lst xs =>
      cases d2 with
      | int k =>
        obtain ⟨vs, e1, p1⟩ := r1
        have e2 : v2 = .int k := rep_int r2
        subst e2
        by_cases hc : xs.length ≤ 1000 ∧ k.natAbs ≤ 1000
        · have e3 : olrep (.lst xs) (.int k) = .ok (.lst (List.replicate k.toNat xs).flatten) := if_pos hc
          rw [e3] at q2
          have q3 := q2
          have hl := p1.length
          refine ⟨l, k, vs, rfl, rfl, s2 _ _ e1, by omega, by omega, ?_, fun p hp => ?_⟩
          · have : vs.length * k.toNat ≤ 1000 * 1000 := Nat.mul_le_mul (by omega) (by omega)
            exact Nat.le_trans this (by decide)
          · have s12 := s1.trans s2
            have np1 : H1 p = none := by
              cases z : H1 p with
              | none => rfl
              | some o =>
                rw [s2 p o z] at hp
                cases hp
            have np : H p = none := by
              cases z : H p with
              | none => rfl
              | some o =>
                rw [s12 p o z] at hp
                cases hp
            have s3 : Same H2 (upd H2 p (.lst (List.replicate k.toNat vs).flatten)) := new_same hp
            refine q3 p _ np (s12.trans s3) ⟨_, upd_same, RepL.move ⟨fun b hb => ?_, fun b o e hb => (s2.trans s3) b o e⟩ _ _ (p1.flat k.toNat)⟩
            rcases hb with hb | hb
            · exact .inl (.inl hb)
            · rw [hb]
              exact .inr np1
        · have e3 : olrep (.lst xs) (.int k) = .stuck := if_neg hc
          rw [e3] at q2
          exact q2.elim
      | _ => exact (q2 : False).elim
    | _ => exact (show False from q2).elim
end
end Py
/-! The __init__ of an own exception: super().__init__(..), then its fields. -/
namespace Py
open PySem L2 PyProof.Rows
/-- an exception's __init__ that keeps what it is given, under these names -/
def spX (C : Addr) (n : Nat) (fs : List Str) : Sp := fun vs H Q E => ∃ a H1 ws, vs = .ref a :: ws ∧ H = upd H1 a (exo a C none) ∧ H1 a = none ∧ ws.length = n ∧
  ∀ d H2, H2 a = some (exo a C (some d)) → H2 d = some (exd d (fs.zip ws).reverse) → H1 d = none → d ≠ a → (∀ b, b ≠ a → b ≠ d → H2 b = H1 b) → Q .non H2
/-- what the written part tells of the class C whose __init__ is f -/
structure XIn (P : Program) (K : Frag) (C f cc cda : Addr) (nm qual : Str) (params : Arguments) (body : List Stmt) (scope : Scope) (fd : FuncData) : Prop where
  fn : ∃ (oc : Value) (od : Option Addr) (dV kV doc pm : Value) (an : Option Addr) (ct : Value) (osl : Array (Option Value)),
    fd = PySem.W.ksFn nm qual params body scope dV kV doc pm an (.ref cda) ct cc ∧ K.lookup f = some ⟨oc, od, .func fd, osl⟩
  cd : PySem.W.codeIn K (.ref cda) qual = true
  fl : ∃ (ccl : Value) (cdd : Option Addr) (vs : Array Value) (ccs : Array (Option Value)) (file : Str) (tf : Tok), K.lookup cda = some ⟨ccl, cdd, .fields vs, ccs⟩ ∧ vs[2]? = some (.str file tf) ∧ ((P.main.file : Str) == file) = true
  cell : ∃ (cl : Value) (cld : Option Addr) (csl : Array (Option Value)), K.lookup cc = some ⟨cl, cld, .cell (some (.ref C)), csl⟩
  T : OexC K C
  sup : PySem.W.ks_superIn K C C "__init__" = some (some (.builtin "ValueError.__init__"))
  ve : PySem.W.subIn K (.ref C) (.type "ValueError") = some true
  me : PySem.W.mroIn K C (.ref C) = some true
  thi : PySem.W.nsIn K cStatics "thirdparty.any" = some none
theorem oexC_cd {K : Frag} {C : Addr} (T : OexC K C) : ∃ (cd : ClassData) (dd : Option Addr) (sl : Array (Option Value)), PySem.W.clsIn K C = some cd ∧ K.lookup C = some ⟨.type "type", dd, .cls cd, sl⟩ := by
  obtain ⟨nm, q, N, bs, bm, sn, sub, ab, col, dd, k0, k1, k2, k3, k5, hC, hbm⟩ := T.cls
  exact ⟨_, dd, _, by unfold PySem.W.clsIn; rw [hC] <;> rfl, hC⟩
theorem hv_super : bootBuiltins "super" = some (.type "super") := by decide +kernel
section
variable {P : Program} {w : World} {K : Frag} {mg : Str → Option Value} {base : Heap} {C f cc cda : Addr} {nm qual self txt : Str} {params : Arguments} {body rest : List Stmt} {scope : Scope} {fd : FuncData} {N ps fs : List Str} {k : Nat} {ar : Arg}
theorem callWith_kxs {M : Model} {A : Around} {E : Value → Shared → Prop} {s : Shared} {i : String} {u x : Addr} {pos : Pos} {env : PySem.Env} {e : Expr} {es : List Expr} {Q : Value → Shared → Prop}
    (h : wpAny M A (spliced (backTo pos (starEach (e :: es) env))) (fun vs s₁ => PySem.W.KxsAt i u x s₁.heap ∧ wpAny M A (PySem.call (.ref u) vs) Q E s₁) E s)
    (he : starEach (e :: es) env = (false, eval e env) :: starEach es env := by rfl) (hplain : (backTo pos (starEach es env)).any (·.1) = false := by rfl) :
    wpAny M A (callWith pos (.ref u) [] (backTo pos (starEach (e :: es) env)) []) Q E s := by
  rw [he] at h ⊢
  refine PySem.W.kxs_callWith (i := i) (x := x) (by show (false || (backTo pos (starEach es env)).any (·.1)) = false; rw [hplain]; rfl) ?_
  exact PySem.Calls.evalArgs_plain h
/-- super().__init__(..) called: the object keeps its shape -/
theorem kxs_done {X : Cx} {pins : List (Addr × Obj)} {σ : L2.St} {H : Hp} {s : Shared} {A : Around} {E : Value → Shared → Prop} {u a C : Addr} {us : List Value} {Q : Value → Shared → Prop} (T : OexC X.K C) (I : Inv X pins σ H s) (e : H a = some (exo a C none)) (hu : s.heap.get? u = some (PySem.W.kxs_mw "ValueError.__init__" a))
    (hl : us.length ≤ sizeLine) (h : ∀ s', Inv X pins σ H s' → Q .none s') : wpAny (model X.prog X.w) A (PySem.call (.ref u) us) Q E s := by
  obtain ⟨nm, q, N, bs, bm, sn, sub, ab, col, dd, k0, k1, k2, k3, k5, hC, hbm⟩ := T.cls
  obtain ⟨t1, ho⟩ := exo_at I.hok e
  have hCh := I.kIn _ _ hC
  obtain ⟨hp, g, d, t, os⟩ := s
  refine wpAny_call (codeAny_of_tree ?_)
  show wpAny _ A.in1 (callAny (.ref u) ⟨us, []⟩) _ _ _
  simp only [callAny]
  refine wpAny_bind (wpAny_load hu ?_)
  simp only [PySem.W.kxs_mw, show (Value.type "method-wrapper" == Value.type "method" || Value.type "method-wrapper" == Value.type "builtin_function_or_method" || Value.type "method-wrapper" == Value.type "method-wrapper") = true by decide, if_true]
  refine PySem.W.KFB.if_so (by decide) ?_
  refine wpAny_bind (PySem.W.check_bound_init PySem.F.excBase_ValueError.toExcCallFacts hCh ho rfl ?_)
  refine wpAny_bind (wpAny_pure (wpAny_pure ?_))
  refine ⟨plainId_quiet PySem.F.excBase_ValueError.init.plain _, codeAny_builtin PySem.F.excBase_ValueError.initEntry ?_⟩
  refine PySem.W.exc_init_tree (cls := .ref C) (t0 := t1) (dv := none) (c2 := .none) (c3 := .none) (b4 := .bool false) ho hl fun h' kp hx ht => ?_
  have J := I.write (t' := t) (x := a) (e := a) (o := exo a C none) (by rw [e]; exact True.intro) (.inl rfl) kp ⟨_, hx⟩ (exo_ok hx)
  have eu : upd H a (exo a C none) = H := by
    funext b
    by_cases hb : b = a
    · rw [hb, upd_same, e]
    · rw [upd_ne hb]
  rw [eu] at J
  exact h _ J
theorem xinit_ok {n : Nat} (XI : XIn P K C f cc cda nm qual params body scope fd) (hps : ps = self :: fs) (hlen : fs.length = n) (S : NdefX.NScope N ps ["__class__"] scope) (har : (params.posonlyargs ++ params.args).head? = some ar) (hself : ar.arg = self)
    (hmg : mg "super" = none) (hsk : scope.names.lookup ("super" : Str) = some .globalImplicit) (htop : (P.main.scope.names.lookup ("super" : Str)).isSome = false)
    {p0 p1 p2 p3 p4 p5 : Pos} {j : Nat}
    (hbody : body = .Expr (.Call (.Attribute (.Call (.Name "super" p0) [] [] p1) "__init__" p2) [.Constant (.str txt) j p3] [] p4) p5 :: rest)
    {t : TS} (hb : ∀ (A : Around) (outer : List PySem.Env) (s : Shared) (H : Hp) (E : XK), PSs (NdefX.ncx (L2N.CX P w) P w K mg base N ⟨nm, qual, params, body, scope, [("__class__", cc)], cda⟩ f A outer s H E) rest t)
    (ht : ∀ (a : Addr) (ws : List V) (H1 : Hp) (D : Ends) (σ : L2.St), σ[0]? = some (some (.ref a)) → (∀ i v, ws[i]? = some v → σ[i + 1]? = some (some v)) → ws.length = n → H1 a = none →
      (∀ d H2 σ', H2 a = some (exo a C (some d)) → H2 d = some (exd d (fs.zip ws).reverse) → H1 d = none → d ≠ a → (∀ b, b ≠ a → b ≠ d → H2 b = H1 b) → D.nx σ' H2) → t D σ (upd H1 a (exo a C none)))
    (hin : ∀ (L : Addr), interactive (PySem.W.ksEnv qual scope L f (.ref cda) cc) = false := by intro _; rfl)
    (hsw : ∀ (L : Addr), swapsWith (.Call (.Attribute (.Call (.Name "super" p0) [] [] p1) "__init__" p2) [.Constant (.str txt) j p3] [] p4) none p5.line (PySem.W.ksEnv qual scope L f (.ref cda) cc) = pure false := by intro _; rfl)
    {pl : Sem Bool} (hea : ∀ (L : Addr), eval (.Call (.Attribute (.Call (.Name "super" p0) [] [] p1) "__init__" p2) [.Constant (.str txt) j p3] [] p4) (PySem.W.ksEnv qual scope L f (.ref cda) cc) = (do
      let ov ← attributeBase (.Call (.Name "super" p0) [] [] p1) "__init__" (PySem.W.ksEnv qual scope L f (.ref cda) cc) (eval (.Call (.Name "super" p0) [] [] p1) (PySem.W.ksEnv qual scope L f (.ref cda) cc))
      standAt p2.atName
      let (g, first) ← holding [ov] (getMethod ov "__init__" pl)
      callWith p4 g first (backTo p4 (starEach [.Constant (.str txt) j p3] (PySem.W.ksEnv qual scope L f (.ref cda) cc))) []) := by intro _; rfl)
    (hst : ∀ (L : Addr), starEach [.Constant (.str txt) j p3] (PySem.W.ksEnv qual scope L f (.ref cda) cc) = [(false, eval (.Constant (.str txt) j p3) (PySem.W.ksEnv qual scope L f (.ref cda) cc))] := by intro _; rfl) :
    FnOk P w K mg base (L2N.CX P w) (k + 1) f fd ps (spX C n fs) := by
  subst hps
  obtain ⟨oc, od, dV, kV, doc, pm, an, ct, osl, rfl, lk⟩ := XI.fn
  obtain ⟨ccl, cdd, cvs, ccs, file, tf, hcode, hvs, hfile⟩ := XI.fl
  obtain ⟨cl, cld, csl, hcell⟩ := XI.cell
  obtain ⟨cdC, ddC, slC, hcls, hClk⟩ := oexC_cd XI.T
  have len : ∀ vs H Q E, spX C n fs vs H Q E → vs.length = (self :: fs).length := fun vs H Q E ⟨a, H1, ws, e, _, _, l, _⟩ => by
    rw [e, List.length_cons, List.length_cons, l, hlen]
  refine ⟨len, fun A outer s H args us vs Q E hr e0 hbi r hsp => ?_⟩
  have hl := len _ _ _ _ hsp
  obtain ⟨a, H1, ws, rfl, rfl, ha, hwl, q⟩ := hsp
  have KX : K.In s.heap := e0.mod.kin.keeps fun b o e => (e0.bs b o e).1
  have lim : s.heap.NoLimit := e0.mod.nolimit.keeps fun b o e => (e0.bs b o e).1
  refine ks_codeAny_call_defAt (binds := (self :: fs).zip us) (body := body) hr.depth (KX _ _ lk) rfl lim (PySem.W.codeRec_of KX XI.cd) rfl hbi S.nocell (fun ⟨m, _⟩ hy => S.par m (List.of_mem_zip hy).1) (fun h₁ hns kp => ?_) S.co S.gen S.kind
  have hbase : K.In base := e0.mod.kin
  have hcB : base.get? cc = some ⟨cl, cld, .cell (some (.ref C)), csl⟩ := hbase _ _ hcell
  have CA : NdefX.CellsAt [("__class__", cc)] ["__class__"] [none] s.heap (upd H1 a (exo a C none)) := by
    refine ⟨rfl, fun y c e => ?_, fun x y c e1 e2 => ?_, fun i y e => ?_⟩
    · have hc : c = cc := by
        have := PySem.mem_of_lookup e
        simpa using (Prod.mk.inj (List.mem_singleton.mp this)).2
      subst hc
      exact ⟨(e0.bs _ _ hcB).2, _, _, (e0.bs _ _ hcB).1, rfl⟩
    · have h1 := (Prod.mk.inj (List.mem_singleton.mp (PySem.mem_of_lookup e1))).1
      have h2 := (Prod.mk.inj (List.mem_singleton.mp (PySem.mem_of_lookup e2))).1
      exact h1.trans h2.symm
    · cases i with
      | zero =>
        simp only [List.getElem?_cons_zero, Option.some.injEq] at e
        subst e
        exact ⟨cc, rfl, fun v z => by simp at z⟩
      | succ i => simp at e
  have I := NdefX.inv_startN (CX := L2N.CX P w) (f := f) (E := E) (F := ⟨nm, qual, params, body, scope, [("__class__", cc)], cda⟩) (tk := s.toks + ((self :: fs).zip us).length) S hr.hd e0 hl r CA hns kp
  obtain ⟨u0, us', rfl, ru0⟩ : ∃ u0 us', us = u0 :: us' ∧ L2.RelV (.ref a) u0 := by
    cases r with
    | cons r1 r2 => exact ⟨_, _, rfl, r1⟩
  obtain rfl : u0 = Value.ref a := ru0
  have hv : ((self :: fs).zip (Value.ref a :: us')).reverse.lookup self = some (.ref a) := by
    have nd : (self :: fs).Nodup := by
      have q := S.nd.sublist (List.take_sublist ((self :: fs).length + (["__class__"] : List Str).length) N)
      rw [S.pre] at q
      exact (List.nodup_append.mp q).1
    exact NdefX.zip_look (i := 0) nd rfl rfl
  have ea : (upd H1 a (exo a C none)) a = some (exo a C none) := upd_same
  subst hbody
  refine ks_wpAt_execs_cons (ks_wpAt_Expr_any (ks_wpAt_MethodCall (pl := pl) ?_ (hea _)) (hin _) (hsw _))
  refine ks_wpAt_super_base (f := f) (cc := cda) (ar := ar) hsk (S.frk _ List.mem_cons_self) rfl rfl (I.kIn _ _ lk) rfl har rfl (I.kIn _ _ hcode) rfl hvs hfile htop ?_
  obtain ⟨mb, hmb, hmb2⟩ := I.mod.blt
  refine PySem.W.ks_loadName_global S.kind hsk (PySem.Calls.loadGlobal_builtin (I.mod.glob.keeps I.bk) hmg (hmb.keeps I.bk) ((hmb2 "super" (by decide)).trans hv_super) ⟨rfl, ?_⟩)
  refine wpAny_loadName_free S.kind (S.frk _ List.mem_cons_self) rfl ⟨_, I.kIn _ _ hcell, rfl⟩ ?_
  refine wpAny_loadName_local S.kind (by rw [hself]; exact S.par _ List.mem_cons_self) hns (by rw [hself]; exact hv) ?_
  refine ks_wpAny_isType_cls (I.kIn _ _ hClk) rfl ⟨rfl, ?_⟩
  obtain ⟨t1, hat⟩ := exo_at I.hok ea
  refine ks_wpAny_call_super (I.kIn _ _ hClk) rfl hat rfl (fun c z => nomatch z) (PySem.W.looks_mroIn I.kIn XI.me) fun h2 hso kp2 => ?_
  have I2 := I.kept (t' := s.toks + ((self :: fs).zip (Value.ref a :: us')).length) kp2
  have hmr : PySem.W.Looks (model P w) h2 (mroOf (.ref C)) cdC.mro := fun A Q E s k q => wpAny_bind ((PySem.W.looks_clsIn I2.kIn hcls) A _ E s k (wpAny_pure q))
  have hsup := XI.sup
  unfold PySem.W.ks_superIn at hsup
  rw [hcls] at hsup
  have hat2 := kp2 _ _ hat
  have hIA : PySem.W.InstAt h2 a { cls := .ref C, dict := none, data := .fields #[.ref t1, .none, .none, .none, .bool false, .none] } C none := ⟨hat2, rfl, rfl, trivial⟩
  refine PySem.W.kxs_getMethod PySem.W.kxs_ValueError hso (PySem.W.looks_opaque I2.kIn XI.thi) hmr rfl I2.kIn hsup (hIA.type.andThen (PySem.W.looks_subIn I2.kIn XI.ve)) (PySem.W.ks_ne I2.kIn hIA hcls) (by decide) ?_
  have kp3 : ∀ b o, h2.get? b = some o → (h2.push (PySem.W.kxs_mw "ValueError.__init__" a)).get? b = some o := fun b o e => Heap.get?_push_of_some _ e
  have hu : (h2.push (PySem.W.kxs_mw "ValueError.__init__" a)).get? h2.objs.size = some (PySem.W.kxs_mw "ValueError.__init__" a) := Heap.get?_push_size _ rfl
  have I3 := I2.kept (t' := s.toks + ((self :: fs).zip (Value.ref a :: us')).length + 1) kp3
  have I4 := I3.pins_of (pins' := [(h2.objs.size, PySem.W.kxs_mw "ValueError.__init__" a)]) fun p hp => by
    obtain rfl := List.mem_singleton.mp hp
    exact ⟨hu, I2.hok.fresh (Nat.le_refl _), Nat.ne_of_gt I2.lt, I2.nofs (Nat.le_refl _), fun v z => nomatch z⟩
  refine callWith_kxs (i := "ValueError.__init__") (u := h2.objs.size) (x := a) ?_ (hst _) rfl
  have ha1 := (pa_cons (pe_str (x := txt) (j := j) (pos := p3)) pa_nil (hst s.heap.objs.size)).run p4 _ _ _ _ (fun vs H2 => vs.length ≤ sizeLine ∧ H2 = upd H1 a (exo a C none)) I4 ⟨by rw [sizeLine_eq]; simp, rfl⟩
  refine wpAny_mono ha1 (fun us2 s2 ⟨vs, H2, I5, r5, hl5, e5⟩ => ?_) fun e s' z => z
  subst e5
  have hu5 := (I5.pin (h2.objs.size, PySem.W.kxs_mw "ValueError.__init__" a) (List.mem_append_right _ List.mem_cons_self)).1
  refine ⟨hu5, ?_⟩
  refine kxs_done XI.T I5 ea hu5 (by rw [← r5.length]; exact hl5) fun s' I6 => ?_
  refine PySem.wpAt_of_wpAny ?_
  have I' := I6.unpinned (pins := []) 
  refine wpAny_mono ((hb A outer s (upd H1 a (exo a C none)) E).run [] _ _ _ { nx := fun _ H' => Q .non H', rt := fun _ _ => False } I' (ht a ws H1 _ _ rfl (fun i v hi => ?_) hwl ha fun d H2 σ' k1 k2 k3 k4 k5 => q d H2 k1 k2 k3 k4 k5)) (fun fl s' hs => ?_) fun e s' hs => hs
  · unfold NdefX.startF
    have hi2 := (List.getElem?_eq_some_iff.mp hi).1
    rw [List.getElem?_append_left (by simpa using hi2)]
    simp [hi]
  · cases fl with
    | next =>
      obtain ⟨σ', H', J, q⟩ := hs
      exact ⟨.non, H', J.os, J.bare, J.base, J.hok, rfl, q⟩
    | ret u =>
      obtain ⟨_, _, _, _, _, q⟩ := hs
      exact q.elim
    | brk =>
      obtain ⟨_, _, _, q⟩ := hs
      exact False.elim q
    | cont =>
      obtain ⟨_, _, _, q⟩ := hs
      exact False.elim q
end
section
variable {X : Cx} {CX : CXT} {x : Str} {C fI : Addr} {k : Nat} {fd : FuncData} {ps : List Str} {sp : Sp} {e : Expr} {es : List Expr} {ta : TA} {p pos : Pos}
/-- C(e, ..) makes an error that came out of nothing -/
theorem pmkN (T : OexC X.K C) (iC : PySem.W.findIn X.K (.ref C) "__init__" = some (some (.ref fI))) (tI : PySem.W.typeIn X.K (.ref fI) = some (.type "function"))
    (F1 : FnOk X.prog X.w X.K X.mg X.base CX k fI fd ps sp) (hr : Room (k + 1) X.A) (hb : Binds X.K fd ps []) (hx : Passes CX X (fun _ _ _ => False)) (hg : Gl X x) (hm : X.mg x = some (.ref C)) (ha : PA X (e :: es) ta)
    (hdb : (x == ("__debug__" : Str)) = false) (he : starEach (e :: es) X.env = (false, eval e X.env) :: starEach es X.env) (hpl : (backTo pos (starEach es X.env)).any (·.1) = false) :
    L2N.PMk X (.Call (.Name x p) (e :: es) [] pos) (tMkO C sp [] ta) := by
  intro pins s0 σ H Q I h
  have key : ∀ (us : List Value) (s : Shared), (∃ (vs : List V) (H1 : Hp), Inv X pins σ H1 s ∧ Vals vs us ∧ vs.length ≤ 1000 ∧ ∀ a, H1 a = none → sp (.ref a :: (vs ++ [])) (upd H1 a (exo a C none))
      (fun v H2 => v = .non ∧ ∃ (d : Addr) (fs : List (Str × V)), H2 a = some (exo a C (some d)) ∧ H2 d = some (exd d fs) ∧ H1 d = none ∧ Q (.ref C) (some d) (upd (del H2 a) d (.xd fs))) (fun _ _ _ => False)) →
      wpAny (model X.prog X.w) X.A (PySem.call (.ref C) us) (L2N.MkP X pins σ Q) X.xe s := by
    rintro us ⟨hp, g, dr, tk, os⟩ ⟨vs, H1, I1, r1, hz, q1⟩
    obtain ⟨nm, q, N, bs, bm, sn, sub, ab, col, dd, k0, k1, k2, k3, k5, hC, hbm⟩ := T.cls
    have hus : us.length ≤ sizeLine := by
      rw [← Paired.length r1, sizeLine_eq]
      omega
    have hsz : hp.objs.size ≤ hp.objs.size + 1 := Nat.le_add_right _ _
    have hq := q1 _ (I1.hok.fresh hsz)
    rw [List.append_nil] at hq
    have kk : ∀ b o, hp.get? b = some o → ((hp.push (PySem.W.kdv_tup us)).push (PySem.HandSPX.excO C hp.objs.size)).get? b = some o := fun b o z => Heap.get?_push_of_some _ (Heap.get?_push_of_some _ z)
    have new : ObjOk X.prog X.w (upd H1 (hp.objs.size + 1) (exo (hp.objs.size + 1) C none)) ((hp.push (PySem.W.kdv_tup us)).push (PySem.HandSPX.excO C hp.objs.size)) (hp.objs.size + 1) (exo (hp.objs.size + 1) C none) := exo_ok (t1 := hp.objs.size) (by heap_get)
    have I2 : Inv X pins σ _ ⟨_, g, dr, tk, os⟩ := I1.laid (t' := tk) kk hsz new
    have r2 : Vals (V.ref (hp.objs.size + 1) :: vs) (Value.ref (hp.objs.size + 1) :: us) := .cons rfl r1
    have hl2 := r2.length.symm.trans (F1.len _ _ _ _ hq)
    have b2 := hb _ (Value.ref (hp.objs.size + 1) :: us) I2.kIn (by rw [List.append_nil]; exact hl2)
    rw [List.append_nil] at b2
    have run := F1.run (X.A.under (.builtin "type.__call__" ⟨.ref C :: us, []⟩)) X.stack _ _ ⟨_, []⟩ _ _ _ _ (hr.make C us []) (I2.env0.make C us []) b2 r2 hq
    refine wpAny_call (PySem.HandSPX.call_own PySem.F.excBase_ValueError (fun Y => PySem.HandSPX.refsVE_contains Y bm hbm) (I1.kIn _ _ hC) (PySem.W.looks_findIn I1.kIn iC) (fun self => PySem.W.bind_fn I1.kIn self tI) hus (codeAny_mono run ?_))
    intro r s' hq'
    match r, hq' with
    | .error er, z => exact hx pins σ _ _ er s' I2 z
    | .ok (.ret u), z =>
      obtain ⟨v, H2, os2, bare2, un2, hok2, rv, ev, d, fs, ea, ed, hd1, q2⟩ := z
      subst ev
      obtain ⟨h2, g2, d2, t2, os'⟩ := s'
      obtain ⟨t0, G, J, kG, ge, hoe, na⟩ := mk_end0 (d2 := d2) (t2 := t2) I1 hsz kk un2 hok2 os2 bare2 ea ed hd1
      refine ⟨rv, ?_⟩
      exact ⟨_, _, _, ⟨G, g2, d2, t2, os'⟩, _, _, some d, rfl, J, kG, ge, hoe, ⟨rfl, rfl, fun ws hv => by cases hv <;> rfl⟩, rfl, rfl, na, rfl, bare2, raises_own T.exC T.tyC, q2⟩
    | .ok .next, z => exact False.elim z
    | .ok .brk, z => exact False.elim z
    | .ok .cont, z => exact False.elim z
  refine wpAny_Call_Name_kw (ld_glob I hg hm ?_ hdb)
  refine PySem.W.callWith_K (h₀ := X.base) I.ok.mod.kin T.kC (thn (ha.run pos pins s0 σ H _ I h) fun us s1 hh => ?_) he hpl
  obtain ⟨vs, H1, I1, r1, z⟩ := hh
  exact ⟨I1.kIn, key us s1 ⟨vs, H1, I1, r1, z⟩⟩
end
end Py
/-! Errors of own classes: what the head tells of them, raise. -/
namespace Py
open PySem L2
open He (Fa DefD Tab FnW)
/-! ### facts -/
def fnWx (K : Frag) (p : Str × Option Str) : FnW := match K.lookup (He.fAd K p) with
  | some ⟨_, _, .func fd, _⟩ => some (fd.name, fd.qualname, fd.params, fd.body, fd.scope, fd.globals, [], fd.builtins)
  | _ => none
/-- the class's own __init__ closes over the class, its code stands in the file -/
def cloB (file : Str) (c : String) (q : Str) (K : Frag) : Bool := match K.lookup (He.ma K (ca K c) "__init__") with
  | some ⟨_, _, .func fd, _⟩ => (match fd.code, fd.closure with
    | .ref cda, [(y, cc)] => decide (y = ("__class__" : Str)) && (decide (fd.defaults = .none) && (PySem.W.codeIn K (.ref cda) q &&
      ((match K.lookup cc with | some ⟨_, _, .cell (some (.ref D)), _⟩ => decide (D = ca K c) | _ => false) &&
        (match K.lookup cda with | some ⟨_, _, .fields vs, _⟩ => (match (vs[2]? : Option Value) with | some (.str z _) => decide (z = file) | _ => false) | _ => false))))
    | _, _ => false)
  | _ => false
def oexB (c : String) (K : Frag) : Bool := match K.lookup (ca K c) with
  | some ⟨.type "type", _, .cls cd, sl⟩ => (match cd.mro, sl.toList with
    | .ref C' :: bm, [_, _, _, _, some (.builtin n), _] => decide (C' = ca K c) && (decide (n = "ValueError.__new__") && (cd.hasDict && (!cd.hasDel && PySem.HandSPX.refsVE bm)))
    | _, _ => false)
  | _ => false
theorem oexB_ok {c : String} {K : Frag} (h : oexB c K = true) : ∃ nm q N bs bm sn sub ab col dd k0 k1 k2 k3 k5, K.lookup (ca K c) = some (excClassObj nm q (ca K c) N bs bm true sn sub ab col dd k0 k1 k2 k3 k5 "ValueError.__new__") ∧ PySem.HandSPX.refsVE bm = true := by
  unfold oexB at h
  split at h
  · rename_i dd cd sl ho
    split at h
    · rename_i C' bm k0 k1 k2 k3 n k5 hm hs
      simp only [Bool.and_eq_true, decide_eq_true_eq, Bool.not_eq_true'] at h
      obtain ⟨h1, h2, h3, h4, h5⟩ := h
      obtain ⟨nm, bs, mro, ns, qn, hd, sn, sub, ab, col, del⟩ := cd
      dsimp only at hm h3 h4
      subst hm h3 h4 h1 h2
      have hsl : sl = #[k0, k1, k2, k3, some (.builtin "ValueError.__new__"), k5] := by
        obtain ⟨l⟩ := sl
        simp only at hs
        rw [hs]
      subst hsl
      exact ⟨nm, qn, ns, bs, bm, sn, sub, ab, col, dd, k0, k1, k2, k3, k5, ho, h5⟩
    · cases h
  · cases h
/-- all that is asked of the class c -/
def errB (file : Str) (c : String) (q : Str) (fs : List String) (K : Frag) : Bool := cloB file c q K && (oexB c K &&
  (decide (PySem.W.findIn K (.ref (ca K c)) "__setattr__" = some (some (.builtin "object.__setattr__"))) && (decide (PySem.W.subIn K (.ref (ca K c)) (.type "BaseException") = some true) &&
  (decide (PySem.W.typeIn K (.ref (ca K c)) = some (.type "type")) && (PySem.W.keepIn K (.ref (ca K c)) &&
  (decide (PySem.W.ks_superIn K (ca K c) (ca K c) "__init__" = some (some (.builtin "ValueError.__init__"))) && (decide (PySem.W.subIn K (.ref (ca K c)) (.type "ValueError") = some true) &&
  (decide (PySem.W.mroIn K (ca K c) (.ref (ca K c)) = some true) && (decide (PySem.W.nsIn K cStatics "thirdparty.any" = some none) &&
  (decide (PySem.W.findIn K (.ref (ca K c)) "__init__" = some (some (.ref (He.ma K (ca K c) "__init__")))) && (decide (PySem.W.typeIn K (.ref (He.ma K (ca K c) "__init__")) = some (.type "function")) &&
  fs.all fun f => decide (PySem.W.findIn K (.ref (ca K c)) (Str.ofString f) = some none))))))))))))
structure ErrF (P : Program) (K : Frag) (c : String) (nm qual : Str) (params : Arguments) (body : List Stmt) (scope : Scope) (fs : List String) : Prop where
  xin : ∃ cc cda fd, XIn P K (ca K c) (He.ma K (ca K c) "__init__") cc cda nm qual params body scope fd ∧ ∃ kV doc pm an ct, fd = PySem.W.ksFn nm qual params body scope .none kV doc pm an (.ref cda) ct cc
  ini : PySem.W.findIn K (.ref (ca K c)) "__init__" = some (some (.ref (He.ma K (ca K c) "__init__")))
  typ : PySem.W.typeIn K (.ref (He.ma K (ca K c) "__init__")) = some (.type "function")
  no : ∀ f ∈ fs, PySem.W.findIn K (.ref (ca K c)) (Str.ofString f) = some none
theorem err_f {P : Program} {K : Frag} {c : String} {d : DefD} {file : Str} {fs : List String} (hat : d.at_ = (Str.ofString c, some ("__init__" : Str))) (hf : ((P.main.file : Str) == file) = true) (e : fnWx K d.at_ = d.val) (h : errB file c d.qual fs K = true) : ErrF P K c d.name d.qual d.params d.body d.scope fs := by
  unfold errB at h
  simp only [Bool.and_eq_true, decide_eq_true_eq, List.all_eq_true] at h
  obtain ⟨hc, ho, h1, h2, h3, h4, h5, h6, h7, h8, h9, h10, h11⟩ := h
  have hfa : He.fAd K d.at_ = He.ma K (ca K c) "__init__" := by rw [hat] <;> rfl
  unfold cloB at hc
  unfold fnWx at e
  rw [hfa] at e
  cases q : K.lookup (He.ma K (ca K c) "__init__") with
  | none =>
    rw [q] at hc
    cases hc
  | some o =>
    obtain ⟨oc, od, dt, osl⟩ := o
    rw [q] at hc e
    cases dt with
    | func fd =>
      obtain ⟨n1, n2, n3, n4, n5, n6, n7, n8, n9, n10, n11, n12, n13, n14, n15⟩ := fd
      have e2 : (some (n1, n2, n3, n4, n5, n6, [], n15) : FnW) = some (d.name, d.qual, d.params, .stmts d.body, d.scope, mainGlobals, [], builtinsNs) := e
      simp only [Option.some.injEq, Prod.mk.injEq, true_and] at e2
      obtain ⟨g1, g2, g3, g4, g5, g6, g8⟩ := e2
      subst g1 g2 g3 g4 g5 g6 g8
      dsimp only at hc
      split at hc
      · rename_i cda y cc
        simp only [Bool.and_eq_true, decide_eq_true_eq] at hc
        obtain ⟨c1, c2, c3, c4, c5⟩ := hc
        subst c1 c2
        split at c4
        · rename_i cl cld D csl hcell
          have hD : D = ca K c := of_decide_eq_true c4
          subst hD
          split at c5
          · rename_i ccl cdd vs ccs hcode
            split at c5
            · rename_i z tf hz
              have hz2 : z = file := of_decide_eq_true c5
              subst hz2
              exact ⟨⟨cc, cda, _, ⟨⟨oc, od, _, n9, n10, n11, n12, n14, osl, rfl, q⟩, c3, ⟨ccl, cdd, vs, ccs, z, tf, hcode, hz, hf⟩, ⟨cl, cld, csl, hcell⟩, ⟨oexB_ok ho, h1, h2, h3, h4⟩, h5, h6, h7, h8⟩, n9, n10, n11, n12, n14, rfl⟩, h9, h10, h11⟩
            · cases c5
          · cases c5
        · cases c4
      · cases hc
    | _ => cases hc
/-- the name c makes an error that keeps what it is given under the names ns -/
structure ErrOk (P : Program) (w : World) (K : Frag) (mg : Str → Option Value) (base : Heap) (k : Nat) (c : String) (ns : List String) : Prop where
  ex : ∃ f fd ps, mg (Str.ofString c) = some (.ref (ca K c)) ∧ OexC K (ca K c) ∧ PySem.W.findIn K (.ref (ca K c)) "__init__" = some (some (.ref f)) ∧ PySem.W.typeIn K (.ref f) = some (.type "function") ∧ Binds K fd ps [] ∧
    FnOk P w K mg base (L2N.CX P w) k f fd ps (spX (ca K c) ns.length (ns.map Str.ofString))
/-! ### its fields, laid one behind another -/
section
variable {K : Frag} {f g : Str} {C : Addr}
theorem fld_one (T : OexC K C) (hno : PySem.W.findIn K (.ref C) f = some none) {a : Addr} {ws : List V} {H1 : Hp} {D : Ends} {σ : L2.St} (h0 : σ[0]? = some (some (.ref a))) (h1 : ∀ i v, ws[i]? = some v → σ[i + 1]? = some (some v)) (hl : ws.length = 1) (hn : H1 a = none)
    (q : ∀ d H2 σ', H2 a = some (exo a C (some d)) → H2 d = some (exd d (([f] : List Str).zip ws).reverse) → H1 d = none → d ≠ a → (∀ b, b ≠ a → b ≠ d → H2 b = H1 b) → D.nx σ' H2) : tOst K f (tVar 0) (tVar 1) D σ (upd H1 a (exo a C none)) := by
  match ws, hl with
  | [v], _ =>
    refine ⟨v, h1 0 v rfl, _, h0, a, C, rfl, T, hno, .inl ⟨upd_same, fun dx hdx hne => q dx _ σ upd_same ?_ ?_ hne fun b hb hd => ?_⟩⟩
    · rw [upd_ne hne, upd_same]
      rfl
    · rw [upd_ne hne] at hdx
      exact hdx
    · rw [upd_ne hb, upd_ne hd, upd_ne hb]
theorem fld_two (T : OexC K C) (hno : PySem.W.findIn K (.ref C) f = some none) (hno2 : PySem.W.findIn K (.ref C) g = some none) {a : Addr} {ws : List V} {H1 : Hp} {D : Ends} {σ : L2.St} (h0 : σ[0]? = some (some (.ref a))) (h1 : ∀ i v, ws[i]? = some v → σ[i + 1]? = some (some v)) (hl : ws.length = 2) (hn : H1 a = none)
    (q : ∀ d H2 σ', H2 a = some (exo a C (some d)) → H2 d = some (exd d (([f, g] : List Str).zip ws).reverse) → H1 d = none → d ≠ a → (∀ b, b ≠ a → b ≠ d → H2 b = H1 b) → D.nx σ' H2) : tSeq (tOst K f (tVar 0) (tVar 1)) (tOst K g (tVar 0) (tVar 2)) D σ (upd H1 a (exo a C none)) := by
  match ws, hl with
  | [v, w], _ =>
    refine ⟨v, h1 0 v rfl, _, h0, a, C, rfl, T, hno, .inl ⟨upd_same, fun dx hdx hne => ?_⟩⟩
    have hdx2 : H1 dx = none := by
      rw [upd_ne hne] at hdx
      exact hdx
    refine ⟨w, h1 1 w rfl, _, h0, a, C, rfl, T, hno2, .inr ⟨dx, [(f, v)], upd_same, ?_, by simp, q dx _ σ ?_ ?_ hdx2 hne fun b hb hd => ?_⟩⟩
    · rw [upd_ne hne, upd_same]
    · rw [upd_ne hne.symm, upd_same]
    · rw [upd_same]
      rfl
    · rw [upd_ne hd, upd_ne hb, upd_ne hd, upd_ne hb]
end
theorem ErrF.T {P : Program} {K : Frag} {c : String} {nm qual : Str} {params : Arguments} {body : List Stmt} {scope : Scope} {fs : List String} (F : ErrF P K c nm qual params body scope fs) : OexC K (ca K c) := by
  obtain ⟨⟨cc, cda, fd, XI, _⟩, _⟩ := F
  exact XI.T
/-! ### raise -/
theorem RepF.append {K : Frag} {A : AS} {H : Hp} : ∀ {fs gs : List (String × D)} {us vs : List (Str × V)}, RepF K A H fs us → RepF K A H gs vs → RepF K A H (fs ++ gs) (us ++ vs)
  | [], gs, us, vs, h, k => by
    simp only [RepF] at h
    subst h
    exact k
  | (n, d) :: fs, gs, us, vs, h, k => by
    simp only [RepF] at h
    obtain ⟨v, r, rfl, h1, h2⟩ := h
    simp only [List.cons_append, RepF]
    exact ⟨v, r ++ vs, rfl, h1, RepF.append h2 k⟩
theorem repF_zip {K : Frag} {A : AS} {H : Hp} : ∀ {ns : List String} {ds : List D} {vs : List V}, RepL K A H ds vs → RepF K A H (ns.zip ds).reverse ((ns.map Str.ofString).zip vs).reverse
  | [], ds, vs, h => by simp [RepF]
  | n :: ns, [], vs, h => by
    simp only [RepL] at h
    subst h
    simp [RepF]
  | n :: ns, d :: ds, vs, h => by
    simp only [RepL] at h
    obtain ⟨v, r, rfl, h1, h2⟩ := h
    simp only [List.zip_cons_cons, List.map_cons, List.reverse_cons]
    refine RepF.append (repF_zip h2) ?_
    simp only [RepF]
    exact ⟨v, [], rfl, h1, rfl⟩
section
variable {fr : Bool} {X : Cx} {W : WX} {ow oN oB : Ow} {e : Expr} {es : List Expr} {am : AM} {pos p rpos : Pos} {k j : Nat} {c : String} {ns : List String}
theorem s_raise (T : Ctx X W j) (C : ErrOk X.prog X.w X.K X.mg X.base k c ns) (hk : k + 1 ≤ j) (hg : Gl X (Str.ofString c)) (ha : PA X (e :: es) (aE X.K W ow am)) (hz : ns.length ≤ 1000 := by decide)
    (hdb : (Str.ofString c == ("__debug__" : Str)) = false := by decide) (he : starEach (e :: es) X.env = (false, eval e X.env) :: starEach es X.env := by rfl) (hpl : (backTo pos (starEach es X.env)).any (·.1) = false := by rfl) :
    PS X (.Raise (some (.Call (.Name (Str.ofString c) p) (e :: es) [] pos)) none rpos) (tS3 fr X.K W ow oN oB (rais c ns am)) := by
  obtain ⟨f, fd, ps, hm, TO, hi, ht, hb, F⟩ := C.ex
  refine PS.of (L2N.ps_raise T.calm T.tk (pmkN TO hi ht F (T.hr.mono hk) hb passLN hg hm ha hdb he hpl)) fun D σ H ⟨A, H0, O, en, R, q⟩ => ?_
  refine ⟨A, H0, O, en, R, ((Out.bind (show Out (am en >>= fun ds => if ds.length = ns.length then (Res.exc c (ns.zip ds).reverse : Res Fl) else .stuck) _ _ from q)).se R).good fun ds q1 vs H1 s1 r1 => ?_⟩
  have r2 := paired_rep r1
  by_cases hl : ds.length = ns.length
  · rw [if_pos hl] at q1
    refine ⟨by rw [← r2.length, hl]; exact hz, fun a hn => ⟨a, H1, vs ++ [], by simp, rfl, hn, by simp [← r2.length, hl], fun d H2 k1 k2 k3 k4 k5 => ⟨rfl, d, _, k1, k2, k3, ?_⟩⟩⟩
    have sm : Same H1 (upd (del H2 a) d (.xd ((ns.map Str.ofString).zip (vs ++ [])).reverse)) := fun b o eb => by
      have hba : b ≠ a := ne_of_none eb hn
      have hbd : b ≠ d := ne_of_none eb k3
      rw [upd_ne hbd, del_ne hba, k5 b hba hbd]
      exact eb
    refine (show badS X.K W A H0 c (ns.zip ds).reverse from q1) σ d _ _ (R.same.trans (s1.trans sm)) upd_same ?_
    have r3 : RepL X.K A (upd (del H2 a) d (.xd ((ns.map Str.ofString).zip (vs ++ [])).reverse)) ds (vs ++ []) := by
      have r4 : RepL X.K A _ ds vs := RepL.move (Mv.less (A := AO A O) (A' := A) fun b hb => Or.inl hb) ds vs (RepL.move (Mv.same sm) ds vs r2)
      simpa using r4
    exact repF_zip r3
  · rw [if_neg hl] at q1
    exact q1.elim
end
end Py
/-! Within an except suite, and within what is called there. -/
namespace Py
open PySem L2 L2H
structure CtxH (X : Cx) (W : WX) (k : Nat) : Prop where
  tk : L2N.Takes X W
  po : PassesOwn (model X.prog X.w) X.A X.env X.xe
  hr : RoomH k X.A
  hot : HotC X
  nd : X.N.Nodup
theorem CtxH.eq {X : Cx} {W : WX} {k : Nat} (T : CtxH X W k) : OpR X (compareOp .Eq) (r2 X.K oeq) := y_eq (by have := T.hr.un; omega)
theorem CtxH.ne {X : Cx} {W : WX} {k : Nat} (T : CtxH X W k) : OpR X (compareOp .NotEq) (r2 X.K one) := y_ne (by have := T.hr.un; omega)
/-! ### loops over a range -/
section
variable {fr : Bool} {X : Cx} {W : WX} {ow oN oB : Ow} {a : Expr} {ma : EM} {pos p : Pos} {u : SM} {body : List Stmt}
theorem pih_of {tg iter : Expr} {t t' : TI} (h : PIH X tg iter t) (k : ∀ σ H R, t' σ H R → t σ H R) : PIH X tg iter t' := ⟨fun pins s σ H R I q => h.run pins s σ H R I (k σ H R q)⟩
theorem i_rng1H {tg : Expr} (hg : Gl X "range") (hm : X.mg "range" = none) (ha : PE X a (tE X.K W ow ma)) (hs : starEach [a] X.env = [(false, eval a X.env)] := by rfl) : PIH X tg (.Call (.Name "range" p) [a] [] pos) (tI Mv X.K W ow (irng1 ma)) :=
  pih_of (pi_range1H hg hm (pa_cons ha pa_nil hs) hs) fun σ H R' h => rng1_of h
theorem s_forH {tg iter : Expr} {it : IM} {ts : List Nat} {g : GM} (hp : PassesOwn (model X.prog X.w) X.A X.env X.xe) (hc : HotC X) (hi : PIH X tg iter (tI Mv X.K W ow it)) (hg : PG X tg (tGt X.K ow ts g)) (hb : PSs X body (tS fr X.K W ow u))
    (hs : ∀ x, foldedSetIterable iter X.env x = pure x := by intro _; rfl) : PS X (.For tg iter body [] pos) (tS fr X.K W ow (for_ it g u)) :=
  PS.of (ps_forH hp hc hi hg hb hs) fun D σ H h => for_of h
end
/-! ### calls -/
def CallH (P : Program) (w : World) (K : Frag) (mg : Str → Option Value) (base : Heap) (k : Nat) (x : Str) (d : He.DefD) (ps : List Str) (n : Nat) (fm : List D → Res D) : Prop := ∃ f fd, mg x = some (.ref f) ∧ PySem.W.keepIn K (.ref f) = true ∧ Binds K fd ps [] ∧ FnH P w K mg base (L2N.CX P w) k f fd ps (spM K n fm) ∧ Ar n fm
theorem FnH.mono {P : Program} {w : World} {K : Frag} {mg : Str → Option Value} {base : Heap} {CX : CXT} {j k : Nat} {f : Addr} {fd : FuncData} {ps : List Str} {sp : Sp} (F : FnH P w K mg base CX j f fd ps sp) (h : j ≤ k) : FnH P w K mg base CX k f fd ps sp :=
  ⟨F.len, fun A outer s H args us vs Q E p hr => F.run A outer s H args us vs Q E p (hr.mono h)⟩
section
variable {X : Cx} {W : WX} {ow : Ow} {e : Expr} {es : List Expr} {am : AM} {pos p : Pos} {k j n : Nat} {x : Str} {fm : List D → Res D} {d : He.DefD} {ps : List Str}
theorem x_own1H (T : CtxH X W j) (C : CallH X.prog X.w X.K X.mg X.base k x d ps n fm) (hk : k ≤ j) (hg : Gl X x) (ha : PA X (e :: es) (aE X.K W ow am)) (hdb : (x == ("__debug__" : Str)) = false := by decide)
    (he : starEach (e :: es) X.env = (false, eval e X.env) :: starEach es X.env := by rfl) (hpl : (backTo pos (starEach es X.env)).any (·.1) = false := by rfl) : PE X (.Call (.Name x p) (e :: es) [] pos) (tE X.K W ow (call fm am)) := by
  obtain ⟨f, fd, h1, h2, h3, h4, h5⟩ := C
  refine PE.of (pe_callH (E := WE W) h4 (T.hr.mono hk) T.hot hg h1 h2 h3 (fun σ => L2N.passAt T.tk σ) ha hdb he hpl) fun σ H Q h => ?_
  obtain ⟨A, H0, O, en, R, q⟩ := call_of (n := n) (E := WE W) (fun _ _ _ _ z => z) h h5.ok h5.ex
  exact ⟨A, H0, O, en, R, q.good fun ds k vs H1 s1 r1 => by
    have z : spM X.K n fm (vs ++ []) H1 Q (WE W σ) := k vs H1 s1 r1
    rw [List.append_nil] at z
    exact z⟩
end
section
variable {P : Program} {w : World} {K : Frag} {mg : Str → Option Value} {base : Heap} {k : Nat} {ow oN oB : Ow} {m : SM} {f : Addr} {N ps : List Str} {p n : Nat}
theorem def_okH {d : He.DefD} (F : ∃ fd, FunD K d.name d.qual d.params d.body d.scope [] [] f fd) (g : mg d.name = some (.ref f)) (S : FnScope N ps d.scope) (hpl : ps.length = p) (hnl : N.length = n) (hp : ∀ i, i < p → ow i = false)
    (hbind : ∀ (kV doc pm : Value) (an : Option Addr) (cdv ct : Value) (us : List Value), us.length = ps.length → bindArgs (PySem.W.fnOf d.name d.qual d.params d.body d.scope .none kV doc pm an cdv ct) ⟨us, []⟩ = pure (ps.zip us))
    (hb : ∀ (cdv : Value) (A : Around) (outer : List PySem.Env) (s : Shared) (H : Hp) (E : XK) (q : Addr × Obj), CtxH (cxH (L2N.CX P w) P w K mg base N d.qual d.scope f cdv A outer s H E q) (WD E) k →
      PSs (cxH (L2N.CX P w) P w K mg base N d.qual d.scope f cdv A outer s H E q) d.body (tS3 false K (WD E) ow oN oB m)) (hx : ow.x = none := by rfl) : CallH P w K mg base (k + 1) d.name d ps p (fn p n m) := by
  obtain ⟨fd, F⟩ := F
  subst hpl hnl
  refine ⟨f, fd, g, F.kp, FunD.bindsN F hbind, ?_, ar_fn⟩
  obtain ⟨oc, od, dV, kV, doc, pm, an, cdv, ct, osl, rfl, lk, hcd, _, _⟩ := F.ex
  refine fn_ofH lk hcd S (fun vs H Q E ⟨A, ds, r, h, _⟩ => r.length.symm.trans h) fun A outer s H vs Q E q hot hr h => ?_
  exact ⟨tS3 false K (WD E) ow oN oB m, hb cdv A outer s H E q ⟨L2N.takes_of rfl rfl rfl rfl, passes_of rfl, hr, ⟨q, ⟨hot.1, hot.2⟩, List.mem_singleton.mpr rfl⟩, S.nd⟩, spM_start (pre_le S.pre) hx hp h⟩
end
end Py
/-! try .. except X as e, and what is asked of e. -/
namespace Py
open PySem L2 L2H
/-! ### facts -/
def xcV (K : Frag) (t : String) : V := if t = "ValueError" then .ty "ValueError" else .ref (ca K t)
def xcU (K : Frag) (t : String) : Value := if t = "ValueError" then .type "ValueError" else .ref (ca K t)
theorem xc_cls (K : Frag) (t : String) : ClsV (xcV K t) (xcU K t) := by
  unfold xcV xcU
  split
  · exact .ty _
  · exact .own _
def ersB (es all fl : List String) (K : Frag) : Bool := es.all fun c =>
  (PySem.W.clsIn K (ca K c)).isSome && (decide (PySem.W.findIn K (.ref (ca K c)) "__getattribute__" = some (some (.builtin "BaseException.__getattribute__"))) && (decide (PySem.W.findIn K (.ref (ca K c)) "__getattr__" = some none) &&
  (decide (PySem.W.subIn K (.ref (ca K c)) (.type "BaseException") = some true) && (decide (PySem.W.findIn K (.ref (ca K c)) "__class__" = some (some (.builtin "object.__class__"))) &&
  (decide (PySem.W.specialIn K (.builtin "object.__class__") "__get__" = some (some (.builtin "getset_descriptor.__get__"))) && (decide (PySem.W.takesIn K (.builtin "object.__class__") = some true) && (decide (PySem.W.mroIn K (ca K c) (.type "object") = some true) &&
  (PySem.W.hasDictIn K (ca K c) && (decide (PySem.W.exmOne K (.ref (ca K c)) (.ref (ca K "CarryError")) = some true) &&
  ((all.all fun t => decide (PySem.W.kitOne K (.ref (ca K c)) (xcU K t) = some (xisa c [t]))) && fl.all fun f => decide (PySem.W.findIn K (.ref (ca K c)) (Str.ofString f) = some none)))))))))))
structure ErC (K : Frag) (all fl : List String) (c : String) : Prop where
  cl : (PySem.W.clsIn K (ca K c)).isSome = true
  ga : PySem.W.findIn K (.ref (ca K c)) "__getattribute__" = some (some (.builtin "BaseException.__getattribute__"))
  gg : PySem.W.findIn K (.ref (ca K c)) "__getattr__" = some none
  be : PySem.W.subIn K (.ref (ca K c)) (.type "BaseException") = some true
  cc : PySem.W.findIn K (.ref (ca K c)) "__class__" = some (some (.builtin "object.__class__"))
  cg : PySem.W.specialIn K (.builtin "object.__class__") "__get__" = some (some (.builtin "getset_descriptor.__get__"))
  ct : PySem.W.takesIn K (.builtin "object.__class__") = some true
  ob : PySem.W.mroIn K (ca K c) (.type "object") = some true
  hd : PySem.W.hasDictIn K (ca K c) = true
  ex : PySem.W.exmOne K (.ref (ca K c)) (.ref (ca K "CarryError")) = some true
  kt : ∀ t ∈ all, PySem.W.kitOne K (.ref (ca K c)) (xcU K t) = some (xisa c [t])
  fl : ∀ f ∈ fl, PySem.W.findIn K (.ref (ca K c)) (Str.ofString f) = some none
def ErsOk (K : Frag) (es all fl : List String) : Prop := ∀ c ∈ es, ErC K all fl c
theorem ers_ok {K : Frag} {es all fl : List String} (h : ersB es all fl K = true) : ErsOk K es all fl := fun c hc => by
  have h1 := List.all_eq_true.mp h c hc
  simp only [Bool.and_eq_true, decide_eq_true_eq, List.all_eq_true] at h1
  obtain ⟨a1, a2, a3, a4, a5, a6, a7, a8, a9, b1, b2, b3⟩ := h1
  exact ⟨a1, a2, a3, a4, a5, a6, a7, a8, a9, b1, b2, b3⟩
theorem xisa_cons (c t : String) (ts : List String) : xisa c (t :: ts) = (xisa c [t] || xisa c ts) := by
  unfold xisa
  simp
theorem kit_anyE {K : Frag} {all fl : List String} {c : String} (E : ErC K all fl c) : ∀ {ts : List String}, (∀ t ∈ ts, t ∈ all) → PySem.W.kitAny K (.ref (ca K c)) (ts.map (xcU K)) = some (xisa c ts)
  | [], _ => rfl
  | t :: ts, h => by
    rw [xisa_cons]
    refine L2.kitAny_cons (E.kt t (h t List.mem_cons_self)) (fun e => ?_) (fun e => by rw [e]; rfl)
    rw [e, Bool.false_or]
    exact kit_anyE E fun u hu => h u (List.mem_cons_of_mem _ hu)
/-! ### the body: an error leaves the names as they are -/
def tB (fr : Bool) (K : Frag) (W : WX) (ow oN oB : Ow) (m : SM) : TS := fun D σ H => ∃ A H0 O e, ER K A H0 ow O σ H e ∧ Out (m e) (EndOk3 fr K A H0 oN oB O H D) (badE K W A O σ H)
section
variable {fr : Bool} {X : Cx} {W : WX} {ow oN oB : Ow} {a e : Expr} {es' : List Expr} {m : EM} {st : Stmt} {rest body orelse : List Stmt} {u v : SM} {t : TM} {pos p : Pos} {j : Nat}
theorem b_drop (h : PS X st (tDrop (tE X.K W ow m))) : PS X st (tB fr X.K W ow ow oB (drop m)) :=
  PS.of h fun D σ H ⟨A, H0, O, en, R, q⟩ => ⟨A, H0, O, en, R, (Out.bind q).good fun d q1 v H1 s1 r1 => q1 O σ H1 (R.to s1) (Mv.same s1)⟩
theorem b_set {i : Nat} (h : PS X st (tAsg (tE X.K W ow m) (gName i))) (hi : ow i = false) : PS X st (tB fr X.K W ow ow oB (asg (gnm i) m)) :=
  PS.of h fun D σ H ⟨A, H0, O, en, R, q⟩ => ⟨A, H0, O, en, R, (Out.bind q).good fun d q1 v H1 s1 r1 => q1 O _ H1 ((R.to s1).set hi r1) (Mv.same s1)⟩
theorem bs_one (h : PS X st (tB fr X.K W ow oN oB u)) : PSs X [st] (tB fr X.K W ow oN oB u) := pss_one h
end
/-! ### try -/
theorem Ctx.tr {X : Cx} {W W' : WX} {k : Nat} (c : Ctx X W k) {pn : List (Addr × Obj)} {xe : Value → Shared → Prop} (tk : L2N.Takes (X.tr pn xe) W') (po : PassesOwn (model X.prog X.w) X.A X.env xe) : Ctx (X.tr pn xe) W' k := ⟨c.calm, tk, po, c.hr, c.nd⟩
section
variable {fr : Bool} {X : Cx} {W : WX} {ow oN oB : Ow} {body suite : List Stmt} {b₀ : Stmt} {u : SM} {h : String → List (String × D) → SM} {np pos pos' : Pos} {j i : Nat} {es all fl : List String} {x n : Str}
theorem ER.catch {K : Frag} {A : AS} {H0 : Base} {O : OW} {σ : L2.St} {H : Hp} {e : Env} (R : ER K A H0 ow O σ H e) (ho : ow.x = none) (hi : i < σ.length) {a da : Addr} {fs : List (String × D)} {fvs : List (Str × V)} (hd : H da = some (.xd fvs)) (r : RepF K (AO A O) H fs fvs) (hw : ow i = false) :
    ER K A H0 (ow.hold i a da fs) O (σ.set i (some (.ref a))) H (e.set i none) := by
  have other : ∀ k d, (e.set i none)[k]? = some (some d) → i ≠ k ∧ e[k]? = some (some d) := fun k d q => by
    by_cases hk : i = k
    · subst hk
      have hl : i < e.length := by rw [← R.len]; exact hi
      rw [List.getElem?_set_self hl] at q
      cases q
    · rw [List.getElem?_set_ne hk] at q
      exact ⟨hk, q⟩
  have off : ∀ k, i ≠ k → (ow.hold i a da fs) k = ow k := fun k hk => by
    show (k == i || ow k) = ow k
    rw [show (k == i) = false by simpa using fun z => hk z.symm, Bool.false_or]
  refine ⟨by simp [R.len], R.a0, R.same, fun k d h1 h2 => ?_, fun k d h1 h2 => ?_, R.fresh, R.inj, R.pin, fun q hq => ?_⟩
  · obtain ⟨hk, h3⟩ := other k d h1
    rw [off k hk] at h2
    rw [List.getElem?_set_ne hk]
    exact R.vals k d h3 h2
  · obtain ⟨hk, h3⟩ := other k d h1
    rw [off k hk] at h2
    rw [List.getElem?_set_ne hk]
    exact R.owns k d h3 h2
  · have hq2 : some (⟨i, a, da, fs⟩ : Xh) = some q := hq
    cases hq2
    refine ⟨by show (i == i || ow i) = true; simp, List.getElem?_set_self hi, fun d z => (other i d z).1 rfl, fvs, hd, r⟩
/-- behind the suite the name is gone -/
theorem ER.uncatch {K : Frag} {A : AS} {H0 : Base} {O : OW} {σ : L2.St} {H : Hp} {e : Env} {a da : Addr} {fs : List (String × D)} (R : ER K A H0 (oN.hold i a da fs) O σ H e) (ho : oN.x = none) : ER K A H0 oN O (σ.set i none) H (e.set i none) := by
  have hown := R.exq ⟨i, a, da, fs⟩ rfl
  have other : ∀ k d, (e.set i none)[k]? = some (some d) → i ≠ k ∧ e[k]? = some (some d) := fun k d q => by
    by_cases hk : i = k
    · subst hk
      by_cases hl : i < e.length
      · rw [List.getElem?_set_self hl] at q
        cases q
      · rw [List.getElem?_eq_none (by simp; omega)] at q
        cases q
    · rw [List.getElem?_set_ne hk] at q
      exact ⟨hk, q⟩
  have off : ∀ k, i ≠ k → (oN.hold i a da fs) k = oN k := fun k hk => by
    show (k == i || oN k) = oN k
    rw [show (k == i) = false by simpa using fun z => hk z.symm, Bool.false_or]
  refine ⟨by simp [R.len], R.a0, R.same, fun k d h1 h2 => ?_, fun k d h1 h2 => ?_, R.fresh, R.inj, R.pin, XFact.none ho⟩
  · obtain ⟨hk, h3⟩ := other k d h1
    rw [List.getElem?_set_ne hk]
    exact R.vals k d h3 ((off k hk).trans h2)
  · obtain ⟨hk, h3⟩ := other k d h1
    rw [List.getElem?_set_ne hk]
    exact R.owns k d h3 ((off k hk).trans h2)
theorem s_try (T : Ctx X W j) (E : ErsOk X.K es all fl) (hbe : X.mg "CarryError" = some (.ref (ca X.K "CarryError"))) (hg : Gl X "CarryError") (hi : X.N[i]? = some n) (hw : ow i = false) (ho : ow.x = none) (hoN : oN.x = none)
    (hb : ∀ (W' : WX) (pn : List (Addr × Obj)) (xe : Value → Shared → Prop), Ctx (X.tr pn xe) W' j → PSs (X.tr pn xe) body (tB fr X.K W' ow oN oB u))
    (hsu : ∀ (a : Addr) (oe : Obj) (c : String) (da : Addr) (fs : List (String × D)) (pn : List (Addr × Obj)), c ∈ es → Zc (.ref (ca X.K c)) (some da) oe → (∃ vs, oe.data = .fields vs) → CtxH (X.suite a ((a, oe) :: pn)) W0 j →
      PSs (X.suite a ((a, oe) :: pn)) (b₀ :: suite) (tS3 fr X.K W0 (ow.hold i a da fs) (oN.hold i a da fs) (oB.hold i a da fs) (h c fs)))
    (hs : X.stack = X.env :: X.outer := by rfl) (hf : X.env.frame = some X.env.locals := by rfl) (hln : X.env.kindOf n = some .local := by rfl) :
    PS X (.Try body [.ExceptHandler (some (.Name "CarryError" np)) (some n) (b₀ :: suite) pos'] [] [] pos) (tS3 fr X.K W ow oN oB (tryE es i u h)) := by
  refine PS.of (L2N.ps_try_as (c := .ref (ca X.K "CarryError")) (i := i) (ts := fun a cls d Dn σ H => ∃ (c : String) (da : Addr) (fs : List (String × D)), c ∈ es ∧ cls = .ref (ca X.K c) ∧ d = some da ∧ tS3 fr X.K W0 (ow.hold i a da fs) (oN.hold i a da fs) (oB.hold i a da fs) (h c fs) Dn σ H) (tb := fun W' => tB fr X.K W' ow oN oB u)
    hs hf T.nd hi hln ⟨hg, by decide, .inl hbe⟩ T.tk (fun W' pn xe tk po => hb W' pn xe (T.tr tk po)) fun a oe cls d pn hz hv => ⟨fun pins s σ H D I q => ?_⟩) fun D σ H ⟨A, H0, O, en, R, q⟩ => ?_
  · obtain ⟨c, da, fs, hc, rfl, rfl, q⟩ := q
    obtain ⟨vs, hvs⟩ := hv
    exact (hsu a oe c da fs pn hc hz.zc ⟨vs, hvs⟩ ⟨takes0N, PassesOwn.never, ⟨T.hr.dp, T.hr.un⟩, ⟨(a, oe), ⟨rfl, vs, hvs, hz.2.2 vs hvs⟩, List.mem_cons_self⟩, T.nd⟩).run pins s σ H D I q
  · refine ⟨A, H0, O, en, R, ?_⟩
    have q' : Out (tryE es i u h en) (EndOk3 fr X.K A H0 oN oB O H D) (badS X.K W A H0) := q
    unfold tryE at q'
    cases hu : u en with
    | ok f =>
      rw [hu] at q'
      exact q'
    | stuck =>
      rw [hu] at q'
      exact q'.elim
    | exc c fs =>
      rw [hu] at q'
      dsimp only at q'
      split at q'
      · rename_i hc0
        rw [Bool.and_eq_true, decide_eq_true_eq] at hc0
        have hc : c ∈ es := by simpa using hc0.1
        have hlt : i < σ.length := by rw [R.len]; exact hc0.2
        intro da H' fvs s' hd r
        refine ⟨true, (E c hc).ex, fun _ a ha => ⟨c, da, fs, hc, rfl, rfl, A, H0, O, en.set i none, (R.to s').catch ho hlt hd r hw, ?_⟩, fun z => nomatch z⟩
        cases hh : h c fs (en.set i none) with
        | exc c2 fs2 =>
          rw [hh] at q'
          exact q'.elim
        | stuck =>
          rw [hh] at q'
          exact q'.elim
        | ok f =>
          rw [hh] at q'
          cases f with
          | next e' =>
            have q2 : EndOk3 fr X.K A H0 oN oB O H D (.next (e'.set i none)) := q'
            exact fun O' σ' H2 R' mv => q2 O' _ H2 (ER.uncatch R' hoN) ((Mv.same s').trans mv)
          | ret d =>
            have q2 : EndOk3 fr X.K A H0 oN oB O H D (.ret d) := q'
            exact q2
          | brk e' => exact q'.elim
          | cnt e' => exact q'.elim
      · exact q'.elim
end
end Py
/-! What a suite asks of the caught error: isinstance, fields. -/
namespace Py
open PySem L2 L2H
open He (Fa DefD Tab FnW)
section
variable {X : Cx} {a da : Addr} {oe : Obj} {pn : List (Addr × Obj)} {c : String} {es all fl : List String}
theorem suite_inst {pins : List (Addr × Obj)} {σ : L2.St} {H : Hp} {s : Shared} {fvs : List (Str × V)} (I : Inv (X.suite a ((a, oe) :: pn)) pins σ H s) (hz : Zc (.ref (ca X.K c)) (some da) oe) (hv : ∃ vs, oe.data = .fields vs) (hd : H da = some (.xd fvs)) : ∃ od, PySem.W.InstAt s.heap a oe (ca X.K c) (some od) := by
  obtain ⟨vs, hvs⟩ := hv
  obtain ⟨mA, hns, hr⟩ := (show ObjOk X.prog X.w H s.heap da (.xd fvs) from I.hok da _ hd)
  obtain ⟨od, ho, _⟩ := lookIn_ns hns
  exact ⟨od, (I.pin (a, oe) (List.mem_append_left _ List.mem_cons_self)).1, hz.1, by unfold PySem.W.notCls; rw [hvs] <;> rfl, by rw [hz.2]; exact ho⟩
theorem call_xis1 (E : ErC X.K all fl c) (hz : Zc (.ref (ca X.K c)) (some da) oe) (hv : ∃ vs, oe.data = .fields vs) : CallR (X.suite a ((a, oe) :: pn)) (.builtin "isinstance")
    (fun xs H Q => ∃ (cV : V) (u : Value) (b : Bool) (fvs : List (Str × V)), xs = [.ref a, cV] ∧ ClsV cV u ∧ H da = some (.xd fvs) ∧ PySem.W.kitOne X.K (.ref (ca X.K c)) u = some b ∧ Q (.bl b) H) := by
  intro pins s σ H xs us Q I r h
  obtain ⟨cV, u, b, fvs, rfl, k, hd, e, q⟩ := h
  obtain ⟨u1, u2, rfl, r1, r2⟩ := vals2 r
  cases (show u1 = Value.ref a from r1)
  have e2 := k.eq r2
  subst e2
  obtain ⟨od, J⟩ := suite_inst I hz hv hd
  exact PySem.W.kia_one (PySem.W.kitx_exc E.cl E.ga E.gg E.be E.cc E.cg E.ct E.ob) I.kIn J e (fun z => nomatch z) fun tk => ⟨.bl b, H, I.tok tk, rfl, q⟩
theorem call_xisT (E : ErC X.K all fl c) (hz : Zc (.ref (ca X.K c)) (some da) oe) (hv : ∃ vs, oe.data = .fields vs) : CallR (X.suite a ((a, oe) :: pn)) (.builtin "isinstance")
    (fun xs H Q => ∃ (tp : Addr) (cs : List V) (ws : List Value) (b : Bool) (fvs : List (Str × V)), xs = [.ref a, .ref tp] ∧ H tp = some (.tup cs) ∧ Paired ClsV cs ws ∧ H da = some (.xd fvs) ∧ PySem.W.kitAny X.K (.ref (ca X.K c)) ws = some b ∧ Q (.bl b) H) := by
  intro pins s σ H xs us Q I r h
  obtain ⟨tp, cs, ws, b, fvs, rfl, hT, k, hd, e, q⟩ := h
  obtain ⟨u1, u2, rfl, r1, r2⟩ := vals2 r
  cases (show u1 = Value.ref a from r1)
  cases (show u2 = Value.ref tp from r2)
  obtain ⟨od, J⟩ := suite_inst I hz hv hd
  obtain ⟨hz2, its, rv, o, h1, h2, n, h3⟩ := (show ObjOk X.prog X.w H s.heap tp (.tup cs) from I.hok tp _ hT)
  have e3 := ClsV.all k rv
  subst e3
  obtain ⟨oc, od2, dt, sl⟩ := o
  simp only at h2 h3
  subst h2 h3
  exact PySem.W.kia_tup (PySem.W.kitx_exc E.cl E.ga E.gg E.be E.cc E.cg E.ct E.ob) I.kIn J h1 e (fun z => nomatch z) fun tk => ⟨.bl b, H, I.tok tk, rfl, q⟩
end
/-- a tuple of classes as written, by names -/
inductive XcL (X : Cx) : List Expr → List String → TA → Prop
  | nil : XcL X [] [] tNil
  | cons {e : Expr} {es : List Expr} {t : String} {ts : List String} {r : TA} (h : PE X e (tC (xcV X.K t))) (k : XcL X es ts r) (hs : starEach (e :: es) X.env = (false, eval e X.env) :: starEach es X.env) : XcL X (e :: es) (t :: ts) (tCons (tC (xcV X.K t)) r)
theorem XcL.pa {X : Cx} {es : List Expr} {ts : List String} {r : TA} (h : XcL X es ts r) : PA X es r := by
  induction h with
  | nil => exact pa_nil
  | cons h _ hs ih => exact pa_cons h ih hs
theorem XcL.run {X : Cx} {es : List Expr} {ts : List String} {r : TA} (h : XcL X es ts r) : ∀ {σ : L2.St} {H : Hp} {Q : List V → Hp → Prop}, Q (ts.map (xcV X.K)) H → r σ H Q := by
  induction h with
  | nil => exact fun q => q
  | cons h _ hs ih => exact fun q => ih (Q := fun xs H2 => _) q
theorem xc_all (K : Frag) : ∀ ts : List String, Paired ClsV (ts.map (xcV K)) (ts.map (xcU K))
  | [] => .nil
  | t :: ts => .cons (xc_cls K t) (xc_all K ts)
section
variable {X : Cx} {W : WX} {ow : Ow} {a da : Addr} {oe : Obj} {pn : List (Addr × Obj)} {c t : String} {es all fl ts : List String} {fs : List (String × D)} {i tk : Nat} {e0 b : Expr} {els : List Expr} {r : TA} {p tp pos : Pos} {x : Str}
theorem x_xis1 (E : ErsOk X.K es all fl) (hc : c ∈ es) (hz : Zc (.ref (ca X.K c)) (some da) oe) (hv : ∃ vs, oe.data = .fields vs) (hx : x = "isinstance") (hg : Gl (X.suite a ((a, oe) :: pn)) x) (hm : X.mg x = none) (he : PE (X.suite a ((a, oe) :: pn)) e0 (tVar i)) (hb : PE (X.suite a ((a, oe) :: pn)) b (tC (xcV X.K t)))
    (hs : starEach [e0, b] X.env = (false, eval e0 X.env) :: starEach [b] X.env := by rfl) (hs2 : starEach [b] X.env = [(false, eval b X.env)] := by rfl) (hpl : (backTo pos (starEach [b] X.env)).any (·.1) = false := by rfl) (hx0 : ow.x = some ⟨i, a, da, fs⟩ := by rfl) :
    PE (X.suite a ((a, oe) :: pn)) (.Call (.Name x p) [e0, b] [] pos) (tE X.K W ow (xis es all c [t])) := by
  subst hx
  refine PE.of (pe_callB (call_xis1 (E c hc) hz hv) hg hm (by decide +kernel) (pa_cons he (pa_cons hb pa_nil hs2) hs) (by decide) (by decide) hs hpl) fun σ H Q ⟨A, H0, O, en, R, q⟩ => ?_
  obtain ⟨_, h2, _, fvs, h4, _⟩ := R.exq ⟨i, a, da, fs⟩ hx0
  have q' : Out (xis es all c [t] en) _ _ := q
  unfold xis at q'
  split at q'
  · rename_i hk
    have ht : t ∈ all := by
      rw [Bool.and_eq_true] at hk
      simpa using hk.2
    exact ⟨.ref a, h2, xcV X.K t, xcU X.K t, _, fvs, rfl, xc_cls _ _, h4, (E c hc).kt t ht, q' _ H (Same.refl H) rep_bl⟩
  · exact q'.elim
theorem x_xisT (E : ErsOk X.K es all fl) (hc : c ∈ es) (hz : Zc (.ref (ca X.K c)) (some da) oe) (hv : ∃ vs, oe.data = .fields vs) (hx : x = "isinstance") (hg : Gl (X.suite a ((a, oe) :: pn)) x) (hm : X.mg x = none) (he : PE (X.suite a ((a, oe) :: pn)) e0 (tVar i)) (hb : XcL (X.suite a ((a, oe) :: pn)) els ts r) (hz2 : ts.length ≤ 20)
    (hs : starEach [e0, .Tuple els tk tp] X.env = (false, eval e0 X.env) :: starEach [.Tuple els tk tp] X.env := by rfl) (hs2 : starEach [.Tuple els tk tp] X.env = [(false, eval (.Tuple els tk tp) X.env)] := by rfl) (hpl : (backTo pos (starEach [.Tuple els tk tp] X.env)).any (·.1) = false := by rfl) (hx0 : ow.x = some ⟨i, a, da, fs⟩ := by rfl) :
    PE (X.suite a ((a, oe) :: pn)) (.Call (.Name x p) [e0, .Tuple els tk tp] [] pos) (tE X.K W ow (xis es all c ts)) := by
  subst hx
  refine PE.of (pe_callB (call_xisT (E c hc) hz hv) hg hm (by decide +kernel) (pa_cons he (pa_cons (pe_tup hb.pa) pa_nil hs2) hs) (by decide) (by decide) hs hpl) fun σ H Q ⟨A, H0, O, en, R, q⟩ => ?_
  obtain ⟨_, h2, _, fvs, h4, _⟩ := R.exq ⟨i, a, da, fs⟩ hx0
  have q' : Out (xis es all c ts en) _ _ := q
  unfold xis at q'
  split at q'
  · rename_i hk
    have ht : ∀ t ∈ ts, t ∈ all := fun t h => by
      rw [Bool.and_eq_true] at hk
      simpa using List.all_eq_true.mp hk.2 t h
    refine ⟨.ref a, h2, hb.run ⟨by rw [List.length_map]; exact Nat.le_trans hz2 (by decide), fun p hp => ?_⟩⟩
    exact ⟨p, ts.map (xcV X.K), ts.map (xcU X.K), _, fvs, rfl, upd_same, xc_all _ _, (new_same hp) _ _ h4, kit_anyE (E c hc) ht, q' _ _ (new_same hp) rep_bl⟩
  · exact q'.elim
theorem x_xfld {f : String} (E : ErsOk X.K es all fl) (hc : c ∈ es) (hz : Zc (.ref (ca X.K c)) (some da) oe) (hv : ∃ vs, oe.data = .fields vs) (he : PE (X.suite a ((a, oe) :: pn)) e0 (tVar i))
    (hb : attributeBase e0 (Str.ofString f) X.env (eval e0 X.env) = eval e0 X.env := by rfl) (hx0 : ow.x = some ⟨i, a, da, fs⟩ := by rfl) : PE (X.suite a ((a, oe) :: pn)) (.Attribute e0 (Str.ofString f) pos) (tE X.K W ow (xfld es fl c f fs)) := by
  have Ec := E c hc
  by_cases hf : f ∈ fl
  · refine PE.of (pe_xf ⟨Ec.ga, Ec.gg, Ec.be, Ec.hd⟩ (Ec.fl f hf) hz hv he hb) fun σ H Q ⟨A, H0, O, en, R, q⟩ => ?_
    obtain ⟨_, h2, _, fvs, h4, h5⟩ := R.exq ⟨i, a, da, fs⟩ hx0
    have q' : Out (xfld es fl c f fs en) _ _ := q
    unfold xfld at q'
    split at q'
    · have lk := h5.look (f := f)
      have h6 : ∀ o : Option D, fs.lookup f = o → _ := fun o e => e
      cases e : fs.lookup f with
      | none =>
        rw [e] at q'
        exact q'.elim
      | some d =>
        rw [e] at q'
        have lk2 : ∃ v, fvs.lookup (Str.ofString f) = some v ∧ Rep X.K (AO A O) H d v := by
          dsimp only at lk
          rw [e] at lk
          exact lk
        obtain ⟨v, e1, r1⟩ := lk2
        exact ⟨.ref a, h2, rfl, rfl, da, fvs, v, rfl, h4, e1, q' v H (Same.refl H) r1⟩
    · exact q'.elim
  · refine ⟨fun pins s σ H Q I ⟨A, H0, O, en, R, q⟩ => ?_⟩
    have q' : Out (xfld es fl c f fs en) _ _ := q
    unfold xfld at q'
    rw [if_neg (by simp [hf])] at q'
    exact q'.elim
end
theorem xc_glob {X : Cx} {t : String} {pos : Pos} (h : t ≠ "ValueError") (hg : Gl X (Str.ofString t)) (hm : X.mg (Str.ofString t) = some (.ref (ca X.K t))) (hd : (Str.ofString t == ("__debug__" : Str)) = false := by decide) : PE X (.Name (Str.ofString t) pos) (tC (xcV X.K t)) := by
  unfold xcV
  rw [if_neg h]
  exact pe_glob hg hm rfl hd
theorem hv_ve : bootBuiltins "ValueError" = some (.type "ValueError") := by decide +kernel
theorem xc_ve {X : Cx} {pos : Pos} (hg : Gl X "ValueError") (hm : X.mg "ValueError" = none) : PE X (.Name "ValueError" pos) (tC (xcV X.K "ValueError")) := by
  unfold xcV
  rw [if_pos rfl]
  exact pe_bltn hg hm hv_ve rfl
/-! ### an error's __init__, by the head -/
section
variable {P : Program} {w : World} {K : Frag} {mg : Str → Option Value} {base : Heap} {nm qual self txt : Str} {params : Arguments} {body rest : List Stmt} {scope : Scope} {N ps : List Str} {k : Nat} {ar : Arg} {c : String} {ns : List String}
theorem err_ok (F : ErrF P K c nm qual params body scope ns) (g : mg (Str.ofString c) = some (.ref (ca K c))) (hmg : mg "super" = none) (htop : (P.main.scope.names.lookup ("super" : Str)).isSome = false) (hps : ps = self :: ns.map Str.ofString) (S : NdefX.NScope N ps ["__class__"] scope)
    (har : (params.posonlyargs ++ params.args).head? = some ar) (hself : ar.arg = self) (hsk : scope.names.lookup ("super" : Str) = some .globalImplicit) {p0 p1 p2 p3 p4 p5 : Pos} {j : Nat}
    (hbody : body = .Expr (.Call (.Attribute (.Call (.Name "super" p0) [] [] p1) "__init__" p2) [.Constant (.str txt) j p3] [] p4) p5 :: rest)
    (hbind : ∀ (kV doc pm : Value) (an : Option Addr) (cdv ct : Value) (cc : Addr) (us : List Value), us.length = ps.length → bindArgs (PySem.W.ksFn nm qual params body scope .none kV doc pm an cdv ct cc) ⟨us, []⟩ = pure (ps.zip us))
    {t : TS} (hb : ∀ (f cc cda : Addr) (A : Around) (outer : List PySem.Env) (s : Shared) (H : Hp) (E : XK), PSs (NdefX.ncx (L2N.CX P w) P w K mg base N ⟨nm, qual, params, body, scope, [("__class__", cc)], cda⟩ f A outer s H E) rest t)
    (ht : ∀ (a : Addr) (ws : List V) (H1 : Hp) (Dn : Ends) (σ : L2.St), σ[0]? = some (some (.ref a)) → (∀ i v, ws[i]? = some v → σ[i + 1]? = some (some v)) → ws.length = ns.length → H1 a = none →
      (∀ d H2 σ', H2 a = some (exo a (ca K c) (some d)) → H2 d = some (exd d ((ns.map Str.ofString).zip ws).reverse) → H1 d = none → d ≠ a → (∀ b, b ≠ a → b ≠ d → H2 b = H1 b) → Dn.nx σ' H2) → t Dn σ (upd H1 a (exo a (ca K c) none)))
    (hin : ∀ (L f cda cc : Addr), interactive (PySem.W.ksEnv qual scope L f (.ref cda) cc) = false)
    (hsw : ∀ (L f cda cc : Addr), swapsWith (.Call (.Attribute (.Call (.Name "super" p0) [] [] p1) "__init__" p2) [.Constant (.str txt) j p3] [] p4) none p5.line (PySem.W.ksEnv qual scope L f (.ref cda) cc) = pure false)
    {pl : Addr → Addr → Addr → Sem Bool} (hea : ∀ (L f cda cc : Addr), eval (.Call (.Attribute (.Call (.Name "super" p0) [] [] p1) "__init__" p2) [.Constant (.str txt) j p3] [] p4) (PySem.W.ksEnv qual scope L f (.ref cda) cc) = (do
      let ov ← attributeBase (.Call (.Name "super" p0) [] [] p1) "__init__" (PySem.W.ksEnv qual scope L f (.ref cda) cc) (eval (.Call (.Name "super" p0) [] [] p1) (PySem.W.ksEnv qual scope L f (.ref cda) cc))
      standAt p2.atName
      let (g, first) ← holding [ov] (getMethod ov "__init__" (pl f cda cc))
      callWith p4 g first (backTo p4 (starEach [.Constant (.str txt) j p3] (PySem.W.ksEnv qual scope L f (.ref cda) cc))) []))
    (hst : ∀ (L f cda cc : Addr), starEach [.Constant (.str txt) j p3] (PySem.W.ksEnv qual scope L f (.ref cda) cc) = [(false, eval (.Constant (.str txt) j p3) (PySem.W.ksEnv qual scope L f (.ref cda) cc))]) :
    ErrOk P w K mg base (k + 1) c ns := by
  obtain ⟨⟨cc, cda, fd, XI, kV, doc, pm, an, ct, hfd⟩, hini, htyp, hno⟩ := F
  refine ⟨_, fd, ps, g, XI.T, hini, htyp, ?_, ?_⟩
  · rw [hfd]
    exact .all (hbind kV doc pm an _ ct cc)
  · exact xinit_ok XI hps (by simp) S har hself hmg hsk htop hbody (hb _ cc cda) ht (fun L => hin L _ _ _) (fun L => hsw L _ _ _) (fun L => hea L _ _ _) (fun L => hst L _ _ _)
end
/-! ### the hook, the facts -/
section
open He
abbrev AlY : Type := AlT × Bool × List FnW
def obsY (more : Frag → Bool) (fa : List Fa) (fn xf : List DefD) (ts : List Tab) (K : Frag) : AlY := (obsT fa fn ts K, more K, xf.map fun d => fnWx K d.at_)
def valY (fn xf : List DefD) (ts : List Tab) (w : World) : AlY := (valT fn ts w, true, xf.map DefD.val)
def obsYG (n : Nat) (more : Frag → Bool) (fa : List Fa) (fn xf : List DefD) (ts : List Tab) (g : Addr → Option Obj) : AlY := obsY more fa fn xf ts (frG g (cStatics :: asD g n))
def hookY (n : Nat) (more : Frag → Bool) (fa : List Fa) (fn xf : List DefD) (ts : List Tab) : PySem.W.Hook where
  α := AlY
  obs := fun s => obsYG n more fa fn xf ts s.heap.get?
  val := fun w => valY fn xf ts w
  says := fun w h => ∃ K : PySem.W.Frag, K.In h ∧ SaysT fa fn ts w K ∧ more K = true ∧ (xf.map fun d => fnWx K d.at_) = xf.map DefD.val
  of := fun w s e => by
    have e1 : obsY more fa fn xf ts (frG s.heap.get? (cStatics :: asD s.heap.get? n)) = valY fn xf ts w := e
    unfold obsY valY at e1
    obtain ⟨e2, e3⟩ := Prod.mk.inj e1
    obtain ⟨e4, e5⟩ := Prod.mk.inj e3
    exact ⟨_, frG_in, e2, e4, e5⟩
  keeps := fun _ _ _ ⟨K, hK, c, m⟩ k => ⟨K, PySem.W.Frag.In.keeps hK k, c, m⟩
theorem obsYG_eq {n : Nat} {more : Frag → Bool} {fa : List Fa} {fn xf : List DefD} {ts : List Tab} {g : Addr → Option Obj} {s : Shared} (h : ∀ a, g a = s.heap.get? a) : obsYG n more fa fn xf ts g = (hookY n more fa fn xf ts).obs s := by
  have e : g = s.heap.get? := funext h
  rw [e] <;> rfl
end
structure FactsY (fa : List Fa) (fn xf : List DefD) (ts : List Tab) (ms : List (Frag → Bool)) (file : Str) (P : Program) (w : World) (K : Frag) (mg : Str → Option Value) : Prop extends Facts fa fn ts ms w K mg where
  x : (xf.map fun d => fnWx K d.at_) = xf.map DefD.val
  pf : ((P.main.file : Str) == file) = true
  ps : (P.main.scope.names.lookup ("super" : Str)).isSome = false
section
variable {fa : List Fa} {fn xf : List DefD} {ts : List Tab} {ms : List (Frag → Bool)} {file : Str} {P : Program} {w : World} {K : Frag} {mg : Str → Option Value}
theorem FactsY.err (Y : FactsY fa fn xf ts ms file P w K mg) (i j : Nat) {d : DefD} {c : String} {fs : List String} (h : xf[i]? = some d := by rfl) (hat : d.at_ = (Str.ofString c, some ("__init__" : Str)) := by rfl) (hm : ms[j]? = some (errB file c d.qual fs) := by rfl) : ErrF P K c d.name d.qual d.params d.body d.scope fs := by
  refine err_f hat Y.pf ?_ (Y.toFacts.more j hm)
  have e2 : (xf.map fun d => fnWx K d.at_)[i]? = (xf.map DefD.val)[i]? := by rw [Y.x]
  rw [List.getElem?_map, List.getElem?_map, h] at e2
  exact Option.some.inj e2
end
end Py
/-! A tuple so many times. -/
namespace Py
abbrev CS : List String := ["Machine"]
abbrev ES : List String := ["InvalidNumber", "InvalidWords", "InvalidReading", "InvalidMachine", "InvalidRow", "InvalidMarks", "InvalidKind", "InvalidPrimes", "InvalidText", "InvalidCommand", "Undefined", "NothingToDo", "NothingKept"]
abbrev EALL : List String := ["InvalidNumber", "InvalidWords", "InvalidReading", "InvalidMachine", "InvalidRow", "InvalidMarks", "InvalidKind", "InvalidPrimes", "InvalidText", "InvalidCommand", "Undefined", "NothingToDo", "NothingKept", "CarryError", "ValueError"]
abbrev EFL : List String := ["at", "command", "name", "part", "place", "text", "value", "what", "word"]
def b_is_integer : SM :=
  (ret (andE (un (oisi CS [.int]) (var 0)) (un onb (un (oisi CS [.bl]) (var 0)))))
def m_is_integer : List D → Res D := fn 1 1 b_is_integer
def b_is_inputs : SM :=
  (ret (andE (call m_is_integer (argC (var 0) argN)) (Py.chain ole ole (cst (.int 1)) (var 0) (cst (.int 3)))))
def m_is_inputs : List D → Res D := fn 1 1 b_is_inputs
def b_as_tuple : SM :=
  (seq (ite (tst (un (oisi CS [.lst, .tup]) (var 0))) (ret (un btuple (var 0))) skip)
  (ret (cst .non)))
def m_as_tuple : List D → Res D := fn 1 1 b_as_tuple
def b_is_below : SM :=
  (ret (andE (call m_is_integer (argC (var 0) argN)) (Py.chain ole olt (cst (.int 0)) (var 0) (var 1))))
def m_is_below : List D → Res D := fn 2 2 b_is_below
def b_is_line : SM :=
  (seq (ite (orT (notT (tst (un (oisi CS [.tup]) (var 0)))) (tst (bin Py.one (un blen (var 0)) (var 1)))) (ret (cst (.bl false))) skip)
  (ret (un ball (lcE (iseq (var 0)) [3] (gnm 3) yes (call m_is_below (argC (var 3) (argC (var 2) argN)))))))
def m_is_line : List D → Res D := fn 3 4 b_is_line
def b_right_nexts : SM :=
  (seq (asg (gnm 2) (call m_as_tuple (argC (var 0) argN)))
  (seq (ite (notT (tst (var 2))) (rais "InvalidMachine" ["part", "place"] (argC (cst (.str "nexts")) (argC (cst (.int 0)) argN))) skip)
  (seq (for_ (ienum (var 2)) (gtup [(gnm 3), (gnm 4)]) (ite (notT (tst (call m_is_line (argC (var 4) (argC (var 1) (argC (un blen (var 2)) argN)))))) (rais "InvalidMachine" ["part", "place"] (argC (cst (.str "nexts")) (argC (var 3) argN))) skip))
  (ret (var 2)))))
def m_right_nexts : List D → Res D := fn 2 5 b_right_nexts
def b_right_outs : SM :=
  (seq (asg (gnm 3) (call m_as_tuple (argC (var 0) argN)))
  (seq (ite (tst (un oisN (var 3))) (rais "InvalidMachine" ["part", "place"] (argC (cst (.str "outs")) (argC (cst (.int 0)) argN))) skip)
  (seq (asg (gnm 4) (bin bmin2 (un blen (var 3)) (var 2)))
  (seq (for_ (irng1 (var 4)) (gnm 5) (ite (notT (tst (call m_is_line (argC (bin oidx (var 3) (var 5)) (argC (var 1) (argC (cst (.int 2)) argN)))))) (rais "InvalidMachine" ["part", "place"] (argC (cst (.str "outs")) (argC (var 5) argN))) skip))
  (seq (ite (tst (bin Py.one (un blen (var 3)) (var 2))) (rais "InvalidMachine" ["part", "place"] (argC (cst (.str "outs")) (argC (var 4) argN))) skip)
  (ret (var 3)))))))
def m_right_outs : List D → Res D := fn 3 6 b_right_outs
def b_Machine_init : SM :=
  (seq (ite (notT (tst (call m_is_inputs (argC (var 1) argN)))) (rais "InvalidMachine" ["part", "place"] (argC (cst (.str "inputs")) (argC (cst (.int 0)) argN))) skip)
  (seq (asg (gnm 4) (bin oshl (cst (.int 1)) (var 1)))
  (seq (setF 0 ["Machine"] "inputs" (var 1))
  (seq (setF 0 ["Machine"] "nexts" (call m_right_nexts (argC (var 2) (argC (var 4) argN))))
  (setF 0 ["Machine"] "outs" (call m_right_outs (argC (var 3) (argC (var 4) (argC (un blen (un (oattr ["Machine"] "nexts") (var 0))) argN)))))))))
def m_Machine : List D → Res D := made 4 5 "Machine" b_Machine_init
def b_is_reading : SM :=
  (seq (ite (notT (tst (un (oisi CS [.tup]) (var 0)))) (ret (cst (.bl false))) skip)
  (ret (un ball (lcE (iseq (var 0)) [2] (gnm 2) yes (call m_is_below (argC (var 2) (argC (bin oshl (cst (.int 1)) (var 1)) argN)))))))
def m_is_reading : List D → Res D := fn 2 3 b_is_reading
def b_Machine_led : SM :=
  (seq (ite (notT (tst (call m_is_below (argC (var 1) (argC (un blen (un (oattr ["Machine"] "nexts") (var 0))) argN))))) (rais "InvalidNumber" ["value"] (argC (var 1) argN)) skip)
  (seq (ite (notT (tst (call m_is_reading (argC (var 2) (argC (un (oattr ["Machine"] "inputs") (var 0)) argN))))) (rais "InvalidReading" ["value"] (argC (var 2) argN)) skip)
  (seq (asg (gnm 3) (var 1))
  (seq (for_ (iseq (var 2)) (gnm 4) (asg (gnm 3) (bin oidx (bin oidx (un (oattr ["Machine"] "nexts") (var 0)) (var 3)) (var 4))))
  (ret (var 3))))))
def m_Machine_led : List D → Res D := fn 3 5 b_Machine_led
def b__law_integer : SM :=
  (ret (andE (un (oisi CS [.int]) (var 0)) (andE (un onb (un (oisi CS [.bl]) (var 0))) (bin oeq (var 0) (var 1)))))
def m_law_integer : List D → Res D := fn 2 2 b__law_integer
def m_law_alike : Nat → List D → Res D
  | 0 => fn 2 3 dead
  | k + 1 => fn 2 3 ((seq (ite (tst (un (oisi CS [(.cls "Machine")]) (var 1))) (ret (andE (un (oisi CS [(.cls "Machine")]) (var 0)) (andE (call (m_law_alike k) (argC (un (oattr ["Machine"] "nexts") (var 0)) (argC (un (oattr ["Machine"] "nexts") (var 1)) argN))) (call (m_law_alike k) (argC (un (oattr ["Machine"] "outs") (var 0)) (argC (un (oattr ["Machine"] "outs") (var 1)) argN)))))) skip)
  (seq (ite (tst (un (oisi CS [.lst, .tup]) (var 1))) (seq (ite (orT (notT (tst (un (oisi CS [.lst, .tup]) (var 0)))) (tst (bin Py.one (un (oisi CS [.lst]) (var 0)) (un (oisi CS [.lst]) (var 1))))) (ret (cst (.bl false))) skip)
  (seq (ite (tst (bin Py.one (un blen (var 0)) (un blen (var 1)))) (ret (cst (.bl false))) skip)
  (seq (for_ (irng1 (un blen (var 1))) (gnm 2) (ite (notT (tst (call (m_law_alike k) (argC (bin oidx (var 0) (var 2)) (argC (bin oidx (var 1) (var 2)) argN))))) (ret (cst (.bl false))) skip))
  (ret (cst (.bl true)))))) skip)
  (seq (ite (tst (un oisN (var 1))) (ret (un oisN (var 0))) skip)
  (seq (ite (orT (tst (un (oisi CS [.bl]) (var 1))) (tst (un (oisi CS [.bl]) (var 0)))) (ret (andE (un (oisi CS [.bl]) (var 1)) (andE (un (oisi CS [.bl]) (var 0)) (bin oeq (var 0) (var 1))))) skip)
  (seq (ite (tst (un (oisi CS [.str]) (var 1))) (ret (andE (un (oisi CS [.str]) (var 0)) (bin oeq (var 0) (var 1)))) skip)
  (ret (andE (un (oisi CS [.int]) (var 0)) (bin oeq (var 0) (var 1))))))))))
def b_Machine_bits_written : SM :=
  (seq (ite (notT (tst (call m_is_reading (argC (var 1) (argC (un (oattr ["Machine"] "inputs") (var 0)) argN))))) (rais "InvalidReading" ["value"] (argC (var 1) argN)) skip)
  (seq (asg (gnm 2) (cst (.int 0)))
  (seq (asg (gnm 3) (lstE argN))
  (seq (for_ (iseq (var 1)) (gnm 4) (seq (app 3 (bin oidx (bin oidx (un (oattr ["Machine"] "outs") (var 0)) (var 2)) (var 4)))
  (asg (gnm 2) (bin oidx (bin oidx (un (oattr ["Machine"] "nexts") (var 0)) (var 2)) (var 4)))))
  (ret (un btuple (var 3)))))))
def m_Machine_bits_written : List D → Res D := fn 2 5 b_Machine_bits_written
def b_is_number : SM :=
  (ret (andE (call m_is_integer (argC (var 0) argN)) (bin oge (var 0) (cst (.int 0)))))
def m_is_number : List D → Res D := fn 1 1 b_is_number
def b_is_word : SM :=
  (ret (andE (call m_is_number (argC (var 0) argN)) (bin ole (un bbits (var 0)) (var 1))))
def m_is_word : List D → Res D := fn 2 2 b_is_word
def b_are_words : SM :=
  (seq (asg (gnm 4) (call m_as_tuple (argC (var 0) argN)))
  (seq (ite (orT (tst (un oisN (var 4))) (notT (tst (Py.chain ole ole (var 2) (un blen (var 4)) (var 3))))) (ret (cst (.bl false))) skip)
  (ret (un ball (lcE (iseq (var 4)) [5] (gnm 5) yes (call m_is_word (argC (var 5) (argC (var 1) argN))))))))
def m_are_words : List D → Res D := fn 4 6 b_are_words
def b_letters_of : SM :=
  (seq (asg (gnm 2) (lstE argN))
  (seq (for_ (irng1 (var 0)) (gnm 3) (app 2 (un bsum (lcE (irng1 (un blen (var 1))) [4] (gnm 4) yes (bin oshl (bin oand (bin oshr (bin oidx (var 1) (var 4)) (var 3)) (cst (.int 1))) (var 4))))))
  (ret (un btuple (var 2)))))
def m_letters_of : List D → Res D := fn 2 5 b_letters_of
def b_Machine_write : SM :=
  (seq (ite (notT (tst (call m_is_number (argC (var 1) argN)))) (rais "InvalidNumber" ["value"] (argC (var 1) argN)) skip)
  (seq (ite (notT (tst (call m_are_words (argC (var 2) (argC (var 1) (argC (un (oattr ["Machine"] "inputs") (var 0)) (argC (un (oattr ["Machine"] "inputs") (var 0)) argN))))))) (rais "InvalidWords" ["value"] (argC (var 2) argN)) skip)
  (seq (asg (gnm 3) (callM "Machine" "bits_written" m_Machine_bits_written (var 0) (argC (call m_letters_of (argC (var 1) (argC (var 2) argN))) argN)))
  (ret (un bsum (lcE (ienum (var 3)) [4, 5] (gtup [(gnm 4), (gnm 5)]) yes (bin oshl (var 5) (var 4))))))))
def m_Machine_write : List D → Res D := fn 3 6 b_Machine_write
def b__law_called : SM :=
  (seq (ite (tst (bin oeq (var 1) (cst (.int 0)))) (ret (callM "Machine" "led" m_Machine_led (var 0) (argC (var 2) (argC (var 3) argN)))) skip)
  (seq (ite (tst (bin oeq (var 1) (cst (.int 1)))) (ret (callM "Machine" "bits_written" m_Machine_bits_written (var 0) (argC (var 3) argN))) skip)
  (ret (callM "Machine" "write" m_Machine_write (var 0) (argC (var 2) (argC (var 3) argN))))))
def m_law_called : List D → Res D := fn 4 4 b__law_called
def b__law_refused : SM :=
  (seq (tryE ES 5 (Py.drop (call m_law_called (argC (var 0) (argC (var 1) (argC (var 2) (argC (var 3) argN)))))) fun c_e fs_e => (seq (ite (tst (xis ES EALL c_e ["InvalidMachine", "InvalidRow", "InvalidMarks", "InvalidKind", "InvalidPrimes", "InvalidText"])) (ret (cst (.bl false))) skip)
  (seq (ite (orT (tst (xis ES EALL c_e ["InvalidCommand", "Undefined", "NothingToDo", "NothingKept"])) (notT (tst (xis ES EALL c_e ["ValueError"])))) (ret (cst (.bl false))) skip)
  (seq (ite (orT (tst (bin Py.one (xis ES EALL c_e ["InvalidNumber"]) (var 4))) (tst (bin Py.one (xis ES EALL c_e ["InvalidReading"]) (andE (un onb (var 4)) (bin olt (var 1) (cst (.int 2))))))) (ret (cst (.bl false))) skip)
  (seq (ite (tst (bin Py.one (xis ES EALL c_e ["InvalidWords"]) (andE (un onb (var 4)) (bin oeq (var 1) (cst (.int 2)))))) (ret (cst (.bl false))) skip)
  (seq (ite (tst (var 4)) (ret (call (m_law_alike 12) (argC (xfld ES EFL c_e "value" fs_e) (argC (var 2) argN)))) skip)
  (ret (call (m_law_alike 12) (argC (xfld ES EFL c_e "value" fs_e) (argC (var 3) argN))))))))))
  (ret (cst (.bl false))))
def m_law_refused : List D → Res D := fn 5 6 b__law_refused
def b__law_calls_refused : SM :=
  (seq (asg (gnm 4) (un (oattr ["Machine"] "inputs") (var 0)))
  (seq (asg (gnm 5) (bin oshl (cst (.int 1)) (var 4)))
  (seq (asg (gnm 6) (bin oidx (lstE (argC (un oneg (cst (.int 1))) (argC (var 1) (argC (bin oadd (var 1) (bin oidx (var 3) (cst (.int 3)))) (argC (cst (.bl true)) (argC (cst (.bl false)) (argC (cst .non) (argC (cst (.str "0")) (argC (tupE (argC (cst (.int 0)) argN)) (argC (lstE (argC (cst (.int 1)) argN)) (argC (un oneg (bin opow (cst (.int 10)) (cst (.int 30)))) argN))))))))))) (bin oidx (var 3) (cst (.int 1)))))
  (seq (asg (gnm 7) (bin omod (bin oidx (var 3) (cst (.int 6))) (un blen (var 2))))
  (seq (asg (gnm 8) (bin oidx (lstE (argC (un oneg (cst (.int 1))) (argC (var 5) (argC (bin oadd (var 5) (bin oidx (var 3) (cst (.int 3)))) (argC (cst (.bl true)) (argC (cst (.bl false)) (argC (cst .non) (argC (cst (.str "0")) (argC (tupE (argC (cst (.int 0)) argN)) argN))))))))) (bin oidx (var 3) (cst (.int 2)))))
  (seq (asg (gnm 9) (bin oadd (bin oadd (un btuple (slc (var 2) none (some (var 7)))) (tupE (argC (var 8) argN))) (un btuple (slc (var 2) (some (bin oadd (var 7) (cst (.int 1)))) none))))
  (seq (ite (tst (bin oeq (bin oidx (var 3) (cst (.int 0))) (cst (.int 0)))) (asg (gnm 9) (bin oidx (lstE (argC (un blist (var 2)) (argC (cst .non) (argC (cst (.int 0)) (argC (cst (.str "01")) (argC (tupE (argC (un btuple (var 2)) (argC (cst (.int 0)) argN))) argN)))))) (bin omod (bin oidx (var 3) (cst (.int 2))) (cst (.int 5))))) skip)
  (seq (ite (orT (notT (tst (call m_law_refused (argC (var 0) (argC (cst (.int 0)) (argC (var 6) (argC (un btuple (var 2)) (argC (cst (.bl true)) argN)))))))) (notT (tst (call m_law_refused (argC (var 0) (argC (cst (.int 0)) (argC (var 6) (argC (var 9) (argC (cst (.bl true)) argN))))))))) (ret (cst (.bl false))) skip)
  (seq (ite (orT (notT (tst (call m_law_refused (argC (var 0) (argC (cst (.int 0)) (argC (bin osub (var 1) (cst (.int 1))) (argC (var 9) (argC (cst (.bl false)) argN)))))))) (notT (tst (call m_law_refused (argC (var 0) (argC (cst (.int 1)) (argC (cst (.int 0)) (argC (var 9) (argC (cst (.bl false)) argN))))))))) (ret (cst (.bl false))) skip)
  (seq (asg (gnm 10) (un blen (var 2)))
  (seq (asg (gnm 11) (bin olrep (lstE (argC (cst (.int 0)) argN)) (var 4)))
  (seq (asg (gnm 7) (bin omod (bin oidx (var 3) (cst (.int 5))) (var 4)))
  (seq (asg (gnm 12) (un blist (var 11)))
  (seq (setL 12 (var 7) (bin oidx (lstE (argC (un oneg (cst (.int 1))) (argC (bin oshl (cst (.int 1)) (var 10)) (argC (bin oadd (bin oshl (cst (.int 1)) (var 10)) (bin oidx (var 3) (cst (.int 3)))) (argC (cst (.bl true)) (argC (cst (.bl false)) (argC (cst .non) (argC (cst (.str "0")) (argC (tupE (argC (cst (.int 0)) argN)) argN))))))))) (bin oidx (var 3) (cst (.int 2)))))
  (seq (ite (tst (bin oeq (bin oidx (var 3) (cst (.int 0))) (cst (.int 1)))) (asg (gnm 12) (bin oidx (lstE (argC (bin oadd (var 11) (lstE (argC (cst (.int 0)) argN))) (argC (un btuple (slc (var 11) (some (cst (.int 1))) none)) (argC (cst .non) (argC (cst (.int 0)) (argC (cst (.str "0")) argN)))))) (bin omod (bin oidx (var 3) (cst (.int 2))) (cst (.int 5))))) skip)
  (seq (asg (gnm 13) (bin oidx (lstE (argC (un oneg (cst (.int 1))) (argC (cst (.bl true)) (argC (cst (.bl false)) (argC (cst .non) (argC (cst (.str "3")) (argC (tupE (argC (cst (.int 3)) argN)) (argC (lstE (argC (cst (.int 2)) argN)) (argC (un oneg (bin opow (cst (.int 10)) (cst (.int 30)))) argN))))))))) (bin omod (bin oidx (var 3) (cst (.int 1))) (cst (.int 8)))))
  (seq (ite (orT (notT (tst (call m_law_refused (argC (var 0) (argC (cst (.int 2)) (argC (var 13) (argC (un btuple (var 11)) (argC (cst (.bl true)) argN)))))))) (notT (tst (call m_law_refused (argC (var 0) (argC (cst (.int 2)) (argC (var 13) (argC (var 12) (argC (cst (.bl true)) argN))))))))) (ret (cst (.bl false))) skip)
  (seq (for_ (iseq (lstE (argC (var 12) (argC (bin oadd (var 11) (lstE (argC (cst (.int 0)) argN))) (argC (slc (var 11) (some (cst (.int 1))) none) (argC (bin oadd (bin oadd (slc (var 11) none (some (var 7))) (lstE (argC (bin oshl (cst (.int 1)) (var 10)) argN))) (slc (var 11) (some (bin oadd (var 7) (cst (.int 1)))) none)) argN)))))) (gnm 14) (ite (notT (tst (call m_law_refused (argC (var 0) (argC (cst (.int 2)) (argC (var 10) (argC (var 14) (argC (cst (.bl false)) argN)))))))) (ret (cst (.bl false))) skip))
  (ret (call m_law_integer (argC (callM "Machine" "led" m_Machine_led (var 0) (argC (bin osub (var 1) (cst (.int 1))) (argC (tupE argN) argN))) (argC (bin osub (var 1) (cst (.int 1))) argN))))))))))))))))))))))
def m_law_calls_refused : List D → Res D := fn 4 15 b__law_calls_refused
def b__law_cell : SM :=
  (seq (ite (tst (bin olt (var 1) (un blen (var 0)))) (ret (bin oidx (var 0) (var 1))) skip)
  (seq (ite (tst (bin ogt (un blen (var 0)) (cst (.int 0)))) (ret (bin oadd (bin omod (un bint (bin oidx (var 0) (bin omod (var 1) (un blen (var 0))))) (cst (.int 100003))) (bin omul (cst (.int 7919)) (var 1)))) skip)
  (ret (bin oadd (bin omul (cst (.int 7919)) (var 1)) (cst (.int 5))))))
def m_law_cell : List D → Res D := fn 2 2 b__law_cell
def b__law_mixed : SM :=
  (seq (asg (gnm 2) (bin omod (un bint (bin oadd (bin oadd (bin omul (var 0) (cst (.int 48271))) (bin omul (var 1) (cst (.int 1103515245)))) (cst (.int 12345)))) (cst (.int 2147483647))))
  (seq (asg (gnm 3) (bin omod (un bint (bin oadd (bin omul (var 2) (var 2)) (cst (.int 69621)))) (cst (.int 2147483563))))
  (ret (bin ofdiv (bin omod (un bint (bin omul (var 3) (bin oadd (bin omod (var 3) (cst (.int 65521))) (cst (.int 3))))) (cst (.int 1000000007))) (cst (.int 8))))))
def m_law_mixed : List D → Res D := fn 2 4 b__law_mixed
def b__law_draws : SM :=
  (seq (asg (gnm 2) (lstE argN))
  (seq (asg (gnm 3) (var 0))
  (seq (for_ (irng1 (un blen (var 1))) (gnm 4) (ite (andT (tst (bin oge (var 0) (bin opow (cst (.int 10)) (cst (.int 18))))) (andT (tst (bin olt (var 4) (cst (.int 60)))) (tst (bin ogt (var 3) (cst (.int 0)))))) (seq (app 2 (bin omod (un bint (var 3)) (bin oidx (var 1) (var 4))))
  (asg (gnm 3) (bin ofdiv (var 3) (bin oidx (var 1) (var 4))))) (app 2 (bin omod (call m_law_mixed (argC (var 0) (argC (var 4) argN))) (bin oidx (var 1) (var 4))))))
  (ret (var 2)))))
def m_law_draws : List D → Res D := fn 2 5 b__law_draws
def b__law_in_range : SM :=
  (ret (andE (un (oisi CS [.int]) (var 0)) (andE (un onb (un (oisi CS [.bl]) (var 0))) (Py.chain ole ole (var 1) (var 0) (var 2)))))
def m_law_in_range : List D → Res D := fn 3 3 b__law_in_range
def b__law_first_wrong : SM :=
  (seq (for_ (irng1 (un blen (var 0))) (gnm 3) (seq (ite (orT (notT (tst (un (oisi CS [.tup]) (bin oidx (var 0) (var 3))))) (tst (bin Py.one (un blen (bin oidx (var 0) (var 3))) (var 1)))) (ret (var 3)) skip)
  (for_ (iseq (bin oidx (var 0) (var 3))) (gnm 4) (ite (notT (tst (call m_law_in_range (argC (var 4) (argC (cst (.int 0)) (argC (bin osub (var 2) (cst (.int 1))) argN)))))) (ret (var 3)) skip))))
  (ret (un oneg (cst (.int 1)))))
def m_law_first_wrong : List D → Res D := fn 3 5 b__law_first_wrong
def b__law_fault : SM :=
  (seq (ite (notT (tst (call m_law_in_range (argC (var 0) (argC (cst (.int 1)) (argC (cst (.int 3)) argN)))))) (ret (tupE (argC (cst (.str "inputs")) (argC (cst (.int 0)) argN)))) skip)
  (seq (ite (orT (notT (tst (un (oisi CS [.lst, .tup]) (var 1)))) (tst (bin oeq (un blen (var 1)) (cst (.int 0))))) (ret (tupE (argC (cst (.str "nexts")) (argC (cst (.int 0)) argN)))) skip)
  (seq (asg (gnm 3) (call m_law_first_wrong (argC (var 1) (argC (bin oshl (cst (.int 1)) (var 0)) (argC (un blen (var 1)) argN)))))
  (seq (ite (tst (bin oge (var 3) (cst (.int 0)))) (ret (tupE (argC (cst (.str "nexts")) (argC (var 3) argN)))) skip)
  (seq (ite (notT (tst (un (oisi CS [.lst, .tup]) (var 2)))) (ret (tupE (argC (cst (.str "outs")) (argC (cst (.int 0)) argN)))) skip)
  (seq (asg (gnm 3) (call m_law_first_wrong (argC (var 2) (argC (bin oshl (cst (.int 1)) (var 0)) (argC (cst (.int 2)) argN)))))
  (seq (asg (gnm 4) (bin bmin2 (un blen (var 1)) (un blen (var 2))))
  (seq (ite (andT (tst (bin Py.one (un blen (var 1)) (un blen (var 2)))) (orT (tst (bin olt (var 3) (cst (.int 0)))) (tst (bin ogt (var 3) (var 4))))) (asg (gnm 3) (var 4)) skip)
  (seq (ite (tst (bin oge (var 3) (cst (.int 0)))) (ret (tupE (argC (cst (.str "outs")) (argC (var 3) argN)))) skip)
  (ret (cst .non)))))))))))
def m_law_fault : List D → Res D := fn 3 5 b__law_fault
def b__law_made_rightly : SM :=
  (seq (asg (gnm 3) (call m_law_fault (argC (var 0) (argC (var 1) (argC (var 2) argN)))))
  (seq (tryE ES 5 (asg (gnm 4) (call m_Machine (argC (var 0) (argC (var 1) (argC (var 2) argN))))) fun c_e fs_e => (seq (ite (orT (tst (un oisN (var 3))) (orT (notT (tst (xis ES EALL c_e ["InvalidMachine"]))) (notT (tst (xis ES EALL c_e ["ValueError"]))))) (ret (cst (.bl false))) skip)
  (seq (ite (tst (xis ES EALL c_e ["InvalidNumber", "InvalidWords", "InvalidReading", "InvalidRow", "InvalidMarks", "InvalidKind"])) (ret (cst (.bl false))) skip)
  (seq (ite (tst (xis ES EALL c_e ["InvalidPrimes", "InvalidText", "InvalidCommand", "Undefined", "NothingToDo", "NothingKept"])) (ret (cst (.bl false))) skip)
  (ret (andE (un (oisi CS [.str]) (xfld ES EFL c_e "part" fs_e)) (andE (bin oeq (xfld ES EFL c_e "part" fs_e) (bin oidx (var 3) (cst (.int 0)))) (call m_law_integer (argC (xfld ES EFL c_e "place" fs_e) (argC (bin oidx (var 3) (cst (.int 1))) argN))))))))))
  (seq (ite (orT (tst (un onotN (var 3))) (orT (notT (tst (un (oisi CS [(.cls "Machine")]) (var 4)))) (notT (tst (call m_law_integer (argC (un (oattr ["Machine"] "inputs") (var 4)) (argC (var 0) argN))))))) (ret (cst (.bl false))) skip)
  (ret (andE (call (m_law_alike 12) (argC (un (oattr ["Machine"] "nexts") (var 4)) (argC (un btuple (var 1)) argN))) (call (m_law_alike 12) (argC (un (oattr ["Machine"] "outs") (var 4)) (argC (un btuple (var 2)) argN))))))))
def m_law_made_rightly : List D → Res D := fn 3 6 b__law_made_rightly
def b__law_spoilt_member : SM :=
  (seq (ite (tst (bin oeq (bin oidx (var 2) (cst (.int 0))) (cst (.int 0)))) (ret (un blist (var 0))) skip)
  (seq (ite (tst (bin oeq (bin oidx (var 2) (cst (.int 0))) (cst (.int 1)))) (ret (slc (var 0) none (some (bin osub (un blen (var 0)) (cst (.int 1)))))) skip)
  (seq (ite (tst (bin oeq (bin oidx (var 2) (cst (.int 0))) (cst (.int 2)))) (ret (bin oadd (var 0) (tupE (argC (cst (.int 0)) argN)))) skip)
  (seq (ite (tst (bin oeq (bin oidx (var 2) (cst (.int 0))) (cst (.int 3)))) (ret (bin oidx (lstE (argC (cst .non) (argC (cst (.int 7)) (argC (cst (.str "01")) (argC (tupE argN) (argC (cst (.bl true)) argN)))))) (bin omod (bin oidx (var 2) (cst (.int 1))) (cst (.int 5))))) skip)
  (seq (asg (gnm 3) (bin oidx (lstE (argC (un oneg (cst (.int 1))) (argC (var 1) (argC (bin oadd (var 1) (bin oidx (var 2) (cst (.int 3)))) (argC (cst (.bl true)) (argC (cst (.bl false)) (argC (cst .non) (argC (cst (.str "0")) (argC (tupE (argC (cst (.int 0)) argN)) (argC (lstE (argC (cst (.int 0)) argN)) (argC (un oneg (bin opow (cst (.int 10)) (cst (.int 30)))) argN))))))))))) (bin oidx (var 2) (cst (.int 1)))))
  (seq (asg (gnm 4) (bin omod (bin oidx (var 2) (cst (.int 2))) (un blen (var 0))))
  (ret (bin oadd (bin oadd (slc (var 0) none (some (var 4))) (tupE (argC (var 3) argN))) (slc (var 0) (some (bin oadd (var 4) (cst (.int 1)))) none)))))))))
def m_law_spoilt_member : List D → Res D := fn 3 5 b__law_spoilt_member
def b__law_spoilt_table : SM :=
  (seq (asg (gnm 3) (un blist (var 0)))
  (seq (for_ (irng1 (bin oadd (cst (.int 1)) (bin oidx (var 2) (cst (.int 4))))) (gnm 4) (seq (asg (gnm 5) (bin omod (bin oidx (var 2) (bin oadd (cst (.int 5)) (var 4))) (un blen (var 3))))
  (ite (andT (tst (un (oisi CS [.tup]) (bin oidx (var 3) (var 5)))) (tst (bin ogt (un blen (bin oidx (var 3) (var 5))) (cst (.int 1))))) (setL 3 (var 5) (call m_law_spoilt_member (argC (bin oidx (var 3) (var 5)) (argC (var 1) (argC (var 2) argN))))) skip)))
  (ret (var 3))))
def m_law_spoilt_table : List D → Res D := fn 3 6 b__law_spoilt_table
def b__law_other_nexts : SM :=
  (seq (ite (tst (bin oeq (bin oidx (var 1) (cst (.int 7))) (cst (.int 0)))) (ret (bin oidx (lstE (argC (cst .non) (argC (cst (.int 3)) (argC (cst (.bl true)) (argC (cst (.str "ab")) (argC (tupE argN) (argC (lstE argN) (argC (un oneg (cst (.int 1))) (argC (call m_Machine (argC (cst (.int 1)) (argC (lstE (argC (tupE (argC (cst (.int 0)) (argC (cst (.int 0)) argN))) argN)) (argC (lstE (argC (tupE (argC (cst (.int 0)) (argC (cst (.int 1)) argN))) argN)) argN)))) (argC (cst (.str "")) (argC (lstE (argC (cst (.int 3)) argN)) argN))))))))))) (bin oidx (var 1) (cst (.int 1))))) skip)
  (ret (call m_law_spoilt_table (argC (var 0) (argC (un blen (var 0)) (argC (var 1) argN))))))
def m_law_other_nexts : List D → Res D := fn 2 2 b__law_other_nexts
def b__law_other_outs : SM :=
  (seq (ite (tst (bin oeq (bin oidx (var 1) (cst (.int 7))) (cst (.int 0)))) (ret (bin oidx (lstE (argC (cst .non) (argC (cst (.int 3)) (argC (cst (.bl false)) (argC (cst (.str "01")) (argC (tupE argN) (argC (lstE argN) (argC (cst (.int 0)) (argC (call m_Machine (argC (cst (.int 1)) (argC (lstE (argC (tupE (argC (cst (.int 0)) (argC (cst (.int 0)) argN))) argN)) (argC (lstE (argC (tupE (argC (cst (.int 0)) (argC (cst (.int 1)) argN))) argN)) argN)))) (argC (cst (.str "")) (argC (bin opow (cst (.int 10)) (cst (.int 30))) argN))))))))))) (bin oidx (var 1) (cst (.int 1))))) skip)
  (seq (asg (gnm 2) (un blist (var 0)))
  (seq (ite (tst (bin olt (bin oidx (var 1) (cst (.int 7))) (cst (.int 4)))) (asg (gnm 2) (call m_law_spoilt_table (argC (var 0) (argC (cst (.int 2)) (argC (var 1) argN))))) skip)
  (seq (ite (orT (tst (bin oeq (bin oidx (var 1) (cst (.int 7))) (cst (.int 3)))) (tst (bin oeq (bin oidx (var 1) (cst (.int 7))) (cst (.int 4))))) (ret (slc (var 2) none (some (bin omod (bin oidx (var 1) (cst (.int 6))) (un blen (var 2)))))) skip)
  (seq (ite (orT (tst (bin oeq (bin oidx (var 1) (cst (.int 7))) (cst (.int 2)))) (tst (bin oeq (bin oidx (var 1) (cst (.int 7))) (cst (.int 5))))) (ret (bin oadd (var 2) (bin olrep (lstE (argC (bin oidx (var 0) (cst (.int 0))) argN)) (bin oadd (cst (.int 1)) (bin oidx (var 1) (cst (.int 4))))))) skip)
  (seq (ite (tst (bin oeq (bin oidx (var 1) (cst (.int 7))) (cst (.int 6)))) (ret (bin oadd (var 2) (lstE (argC (call m_law_spoilt_member (argC (bin oidx (var 0) (cst (.int 0))) (argC (cst (.int 2)) (argC (var 1) argN)))) argN)))) skip)
  (ret (var 2))))))))
def m_law_other_outs : List D → Res D := fn 2 3 b__law_other_outs
def b__law_table : SM :=
  (seq (asg (gnm 4) (call m_law_draws (argC (var 0) (argC (bin olrep (lstE (argC (var 3) argN)) (bin omul (var 1) (var 2))) argN))))
  (ret (lcE (irng1 (var 1)) [5] (gnm 5) yes (un btuple (slc (var 4) (some (bin omul (var 5) (var 2))) (some (bin omul (bin oadd (var 5) (cst (.int 1))) (var 2))))))))
def m_law_table : List D → Res D := fn 4 6 b__law_table
def b__law_holds : SM :=
  (seq (asg (gnm 1) (call m_law_draws (argC (call m_law_cell (argC (var 0) (argC (cst (.int 0)) argN))) (argC (lstE (argC (cst (.int 3)) (argC (cst (.int 6)) (argC (cst (.int 8)) (argC (cst (.int 8)) (argC (cst (.int 10)) (argC (cst (.int 1000)) (argC (cst (.int 7)) argN)))))))) argN))))
  (seq (asg (gnm 2) (bin oadd (cst (.int 1)) (bin oidx (var 1) (cst (.int 0)))))
  (seq (asg (gnm 3) (bin oadd (cst (.int 1)) (bin oidx (var 1) (cst (.int 1)))))
  (seq (asg (gnm 4) (call m_law_table (argC (call m_law_cell (argC (var 0) (argC (cst (.int 1)) argN))) (argC (var 3) (argC (bin oshl (cst (.int 1)) (var 2)) (argC (var 3) argN))))))
  (seq (asg (gnm 5) (call m_law_table (argC (call m_law_cell (argC (var 0) (argC (cst (.int 2)) argN))) (argC (var 3) (argC (bin oshl (cst (.int 1)) (var 2)) (argC (cst (.int 2)) argN))))))
  (seq (ite (notT (tst (call m_law_made_rightly (argC (var 2) (argC (un blist (var 4)) (argC (un btuple (var 5)) argN)))))) (ret (cst (.bl false))) skip)
  (seq (asg (gnm 6) (lstE (argC (cst (.int 10)) (argC (cst (.int 10)) (argC (cst (.int 8)) (argC (cst (.int 1000)) (argC (cst (.int 2)) (argC (cst (.int 6)) (argC (cst (.int 6)) (argC (cst (.int 8)) argN))))))))))
  (seq (asg (gnm 7) (var 4))
  (seq (asg (gnm 8) (un btuple (var 5)))
  (seq (asg (gnm 9) (var 2))
  (seq (ite (tst (bin oeq (bin omod (bin oidx (var 1) (cst (.int 2))) (cst (.int 2))) (cst (.int 1)))) (asg (gnm 7) (call m_law_other_nexts (argC (var 4) (argC (call m_law_draws (argC (call m_law_cell (argC (var 0) (argC (cst (.int 3)) argN))) (argC (var 6) argN))) argN)))) skip)
  (seq (ite (tst (bin oeq (bin omod (bin ofdiv (bin oidx (var 1) (cst (.int 2))) (cst (.int 2))) (cst (.int 2))) (cst (.int 0)))) (asg (gnm 8) (call m_law_other_outs (argC (var 5) (argC (call m_law_draws (argC (call m_law_cell (argC (var 0) (argC (cst (.int 4)) argN))) (argC (var 6) argN))) argN)))) skip)
  (seq (ite (tst (bin oeq (bin oidx (var 1) (cst (.int 3))) (cst (.int 0)))) (asg (gnm 9) (bin oidx (lstE (argC (cst (.int 0)) (argC (cst (.int 4)) (argC (un oneg (cst (.int 1))) (argC (cst (.bl true)) (argC (cst .non) (argC (cst (.str "1")) (argC (tupE (argC (cst (.int 1)) argN)) (argC (bin opow (cst (.int 10)) (cst (.int 30))) (argC (cst (.bl false)) (argC (lstE (argC (cst (.int 2)) argN)) argN))))))))))) (bin oidx (var 1) (cst (.int 4))))) skip)
  (seq (ite (tst (bin oeq (bin oidx (var 1) (cst (.int 3))) (cst (.int 1)))) (asg (gnm 9) (bin oadd (cst (.int 1)) (bin omod (bin oadd (var 2) (bin oidx (var 1) (cst (.int 5)))) (cst (.int 3))))) skip)
  (seq (ite (andT (tst (un (oisi CS [.lst]) (var 7))) (tst (bin oeq (bin omod (bin oidx (var 1) (cst (.int 3))) (cst (.int 2))) (cst (.int 0))))) (asg (gnm 7) (un btuple (var 7))) skip)
  (seq (ite (notT (tst (call m_law_made_rightly (argC (var 9) (argC (var 7) (argC (var 8) argN)))))) (ret (cst (.bl false))) skip)
  (seq (ite (notT (tst (call m_law_made_rightly (argC (var 2) (argC (un btuple (var 4)) (argC (un blist (var 5)) argN)))))) (ret (cst (.bl false))) skip)
  (seq (asg (gnm 10) (bin omod (bin oidx (var 1) (cst (.int 5))) (var 3)))
  (seq (asg (gnm 11) (bin oidx (var 4) (var 10)))
  (seq (asg (gnm 12) (bin omod (bin oidx (var 1) (cst (.int 6))) (un blen (var 11))))
  (seq (asg (gnm 13) (bin oadd (bin oadd (slc (var 11) none (some (var 12))) (tupE (argC (var 3) argN))) (slc (var 11) (some (bin oadd (var 12) (cst (.int 1)))) none)))
  (seq (ite (notT (tst (call m_law_made_rightly (argC (var 2) (argC (bin oadd (bin oadd (slc (var 4) none (some (var 10))) (lstE (argC (var 13) argN))) (slc (var 4) (some (bin oadd (var 10) (cst (.int 1)))) none)) (argC (var 5) argN)))))) (ret (cst (.bl false))) skip)
  (seq (asg (gnm 11) (bin oidx (var 5) (var 10)))
  (seq (asg (gnm 13) (bin oadd (bin oadd (slc (var 11) none (some (var 12))) (tupE (argC (cst (.int 2)) argN))) (slc (var 11) (some (bin oadd (var 12) (cst (.int 1)))) none)))
  (seq (ite (notT (tst (call m_law_made_rightly (argC (var 2) (argC (var 4) (argC (bin oadd (bin oadd (slc (var 5) none (some (var 10))) (lstE (argC (var 13) argN))) (slc (var 5) (some (bin oadd (var 10) (cst (.int 1)))) none)) argN)))))) (ret (cst (.bl false))) skip)
  (seq (asg (gnm 14) (call m_Machine (argC (var 2) (argC (var 4) (argC (var 5) argN)))))
  (seq (asg (gnm 15) (call m_law_draws (argC (call m_law_cell (argC (var 0) (argC (cst (.int 5)) argN))) (argC (bin olrep (lstE (argC (bin oshl (cst (.int 1)) (var 2)) argN)) (bin oadd (cst (.int 1)) (bin oidx (var 1) (cst (.int 6))))) argN))))
  (ret (call m_law_calls_refused (argC (var 14) (argC (var 3) (argC (var 15) (argC (call m_law_draws (argC (call m_law_cell (argC (var 0) (argC (cst (.int 6)) argN))) (argC (var 6) argN))) argN)))))))))))))))))))))))))))))))))
def m_law_holds : List D → Res D := fn 1 16 b__law_holds
def b_law : SM :=
  (thru (ret (call m_law_holds (argC (var 0) argN))))
def m_law : List D → Res D := fn 1 1 b_law
end Py
/-! How the mirrors are computed: equations, loops, comprehensions. -/
namespace Py.U
open PySem
/-! ### equations -/
@[simp] theorem cst_eq (d : D) (e : Env) : cst d e = .ok d := rfl
@[simp] theorem un_eq (f : D → Res D) (a : EM) (e : Env) : un f a e = (a e >>= f) := rfl
@[simp] theorem bin_eq (f : D → D → Res D) (a b : EM) (e : Env) : bin f a b e = (a e >>= fun x => b e >>= fun y => f x y) := rfl
@[simp] theorem argN_eq (e : Env) : argN e = .ok [] := rfl
@[simp] theorem argC_eq (a : EM) (r : AM) (e : Env) : argC a r e = (a e >>= fun x => r e >>= fun xs => .ok (x :: xs)) := rfl
@[simp] theorem call_eq (f : List D → Res D) (a : AM) (e : Env) : call f a e = (a e >>= f) := rfl
@[simp] theorem tst_eq (a : EM) (e : Env) : tst a e = (a e >>= truthy) := rfl
@[simp] theorem andT_eq (a b : TM) (e : Env) : andT a b e = (a e >>= fun x => if x then b e else .ok false) := rfl
@[simp] theorem orT_eq (a b : TM) (e : Env) : orT a b e = (a e >>= fun x => if x then .ok true else b e) := rfl
@[simp] theorem notT_eq (a : TM) (e : Env) : notT a e = (a e >>= fun x => .ok (!x)) := rfl
@[simp] theorem ifE_eq (t : TM) (a b : EM) (e : Env) : ifE t a b e = (t e >>= fun x => if x then a e else b e) := rfl
@[simp] theorem ite_eq (t : TM) (a b : SM) (e : Env) : ite t a b e = (t e >>= fun x => if x then a e else b e) := rfl
@[simp] theorem skip_eq (e : Env) : skip e = .ok (.next e) := rfl
@[simp] theorem ret_eq (m : EM) (e : Env) : ret m e = (m e >>= fun d => .ok (.ret d)) := rfl
@[simp] theorem asg_eq (g : GM) (m : EM) (e : Env) : asg g m e = (m e >>= fun d => lift (g d e) >>= fun e' => .ok (.next e')) := rfl
@[simp] theorem gnm_eq (i : Nat) (d : D) (e : Env) : gnm i d e = some (e.set i (some d)) := rfl
@[simp] theorem seq_eq (a b : SM) (e : Env) : seq a b e = (a e >>= fun f => match f with | .next e' => b e' | r => .ok r) := rfl
@[simp] theorem forB_eq (g : GM) (b : SM) (x : D) (e : Env) : forB g b x e = (lift (g x e) >>= b) := rfl
@[simp] theorem drop_eq (m : EM) (e : Env) : Py.drop m e = (m e >>= fun _ => .ok (.next e)) := rfl
@[simp] theorem tupE_eq (a : AM) (e : Env) : tupE a e = (a e >>= fun xs => chk xs.length (.tup xs)) := rfl
@[simp] theorem lstE_eq (a : AM) (e : Env) : lstE a e = (a e >>= fun xs => chk xs.length (.lst xs)) := rfl
@[simp] theorem andE_eq (a b : EM) (e : Env) : andE a b e = (a e >>= fun x => match x with | .bl true => b e | .bl false => .ok (.bl false) | _ => .stuck) := rfl
@[simp] theorem orE_eq (a b : EM) (e : Env) : orE a b e = (a e >>= fun x => match x with | .bl false => b e | .bl true => .ok (.bl true) | _ => .stuck) := rfl
@[simp] theorem chain_eq (f g : D → D → Res D) (a b c : EM) (e : Env) : chain f g a b c e = (a e >>= fun x => b e >>= fun y => f x y >>= fun z => match z with
  | .bl true => c e >>= fun u => g y u
  | .bl false => .ok (.bl false)
  | _ => .stuck) := rfl
@[simp] theorem iseq_eq (a : EM) (e : Env) : iseq a e = (a e >>= fun x => match x with | .lst xs => .ok xs | .tup xs => .ok xs | _ => .stuck) := rfl
@[simp] theorem for_eq (it : IM) (g : GM) (b : SM) (e : Env) : for_ it g b e = (it e >>= fun xs => forL (forB g b) xs e) := rfl
@[simp] theorem app_eq (i : Nat) (m : EM) (e : Env) : app i m e = (var i e >>= fun l => match l with
  | .lst xs => m e >>= fun d => if xs.length < SZ then .ok (.next (e.set i (some (.lst (xs ++ [d]))))) else .stuck
  | _ => .stuck) := rfl
@[simp] theorem aug_eq (i : Nat) (f : D → D → Res D) (m : EM) (e : Env) : aug i f m e = (var i e >>= fun x => m e >>= fun y => f x y >>= fun z => .ok (.next (e.set i (some z)))) := rfl
@[simp] theorem done_next (e : Env) : done (.ok (.next e)) = .ok .non := rfl
@[simp] theorem done_ret (d : D) : done (.ok (.ret d)) = .ok d := rfl
@[simp] theorem thru_eq (m : SM) (e : Env) : thru m e = noexc (m e) := rfl
@[simp] theorem brk_eq (e : Env) : brk e = .ok (.brk e) := rfl
@[simp] theorem cnt_eq (e : Env) : cnt e = .ok (.cnt e) := rfl
@[simp] theorem retN_eq (e : Env) : retN e = .ok (.ret .non) := rfl
@[simp] theorem chk_0 {d : D} : chk 0 d = .ok d := chk_ok (by decide)
@[simp] theorem chk_1 {d : D} : chk 1 d = .ok d := chk_ok (by decide)
@[simp] theorem chk_2 {d : D} : chk 2 d = .ok d := chk_ok (by decide)
@[simp] theorem chk_3 {d : D} : chk 3 d = .ok d := chk_ok (by decide)
@[simp] theorem chk_4 {d : D} : chk 4 d = .ok d := chk_ok (by decide)
@[simp] theorem chk_5 {d : D} : chk 5 d = .ok d := chk_ok (by decide)
@[simp] theorem chk_6 {d : D} : chk 6 d = .ok d := chk_ok (by decide)
@[simp] theorem chk_7 {d : D} : chk 7 d = .ok d := chk_ok (by decide)
@[simp] theorem chk_8 {d : D} : chk 8 d = .ok d := chk_ok (by decide)
@[simp] theorem chk_9 {d : D} : chk 9 d = .ok d := chk_ok (by decide)
@[simp] theorem chk_10 {d : D} : chk 10 d = .ok d := chk_ok (by decide)
@[simp] theorem chk_11 {d : D} : chk 11 d = .ok d := chk_ok (by decide)
@[simp] theorem chk_12 {d : D} : chk 12 d = .ok d := chk_ok (by decide)
@[simp] theorem chk_13 {d : D} : chk 13 d = .ok d := chk_ok (by decide)
@[simp] theorem chk_14 {d : D} : chk 14 d = .ok d := chk_ok (by decide)
@[simp] theorem chk_15 {d : D} : chk 15 d = .ok d := chk_ok (by decide)
@[simp] theorem chk_16 {d : D} : chk 16 d = .ok d := chk_ok (by decide)
@[simp] theorem chk_17 {d : D} : chk 17 d = .ok d := chk_ok (by decide)
@[simp] theorem chk_18 {d : D} : chk 18 d = .ok d := chk_ok (by decide)
@[simp] theorem chk_19 {d : D} : chk 19 d = .ok d := chk_ok (by decide)
@[simp] theorem chk_20 {d : D} : chk 20 d = .ok d := chk_ok (by decide)
@[simp] theorem chk_21 {d : D} : chk 21 d = .ok d := chk_ok (by decide)
@[simp] theorem chk_22 {d : D} : chk 22 d = .ok d := chk_ok (by decide)
@[simp] theorem chk_23 {d : D} : chk 23 d = .ok d := chk_ok (by decide)
/-! ### calls of defs -/
theorem fn1 {n : Nat} {b : SM} {x : D} : fn 1 n b [x] = done (b (some x :: List.replicate (n - 1) none)) := if_pos rfl
theorem fn2 {n : Nat} {b : SM} {x y : D} : fn 2 n b [x, y] = done (b (some x :: some y :: List.replicate (n - 2) none)) := if_pos rfl
theorem fn3 {n : Nat} {b : SM} {x y z : D} : fn 3 n b [x, y, z] = done (b (some x :: some y :: some z :: List.replicate (n - 3) none)) := if_pos rfl
theorem fn4 {n : Nat} {b : SM} {x y z u : D} : fn 4 n b [x, y, z, u] = done (b (some x :: some y :: some z :: some u :: List.replicate (n - 4) none)) := if_pos rfl
/-! ### operators on numbers -/
@[simp] theorem oadd_ii (i j : Int) : oadd (.int i) (.int j) = .ok (.int (i + j)) := rfl
@[simp] theorem osub_ii (i j : Int) : osub (.int i) (.int j) = .ok (.int (i - j)) := rfl
theorem omul_ii {i j : Int} (h : i.natAbs < B64 ∨ j.natAbs < B64) : omul (.int i) (.int j) = .ok (.int (i * j)) := if_pos h
theorem omul_l {i j : Int} (h : -18446744073709551616 < i) (h' : i < 18446744073709551616) : omul (.int i) (.int j) = .ok (.int (i * j)) := omul_ii (.inl (by unfold B64; omega))
theorem omul_r {i j : Int} (h : -18446744073709551616 < j) (h' : j < 18446744073709551616) : omul (.int i) (.int j) = .ok (.int (i * j)) := omul_ii (.inr (by unfold B64; omega))
theorem opow18 : opow (.int 10) (.int 18) = .ok (.int 1000000000000000000) := rfl
theorem omod_ii {i j : Int} (h : 0 < j) : omod (.int i) (.int j) = .ok (.int (i % j)) := if_pos h
theorem ofdiv_ii {i j : Int} (h : 0 < j ∧ j < 1073741824) : ofdiv (.int i) (.int j) = .ok (.int (i / j)) := if_pos h
theorem oshl_ii {i j : Int} (h : 0 ≤ j ∧ (Builtin.Int.intBits i : Int) + j ≤ 134217728) : oshl (.int i) (.int j) = .ok (.int (i * 2 ^ j.toNat)) := if_pos h
@[simp] theorem oand_ii (i j : Int) : oand (.int i) (.int j) = .ok (.int (Builtin.bitAnd i j)) := rfl
@[simp] theorem olt_ii (i j : Int) : olt (.int i) (.int j) = .ok (.bl (decide (i < j))) := rfl
@[simp] theorem ole_ii (i j : Int) : ole (.int i) (.int j) = .ok (.bl (decide (i ≤ j))) := rfl
@[simp] theorem ogt_ii (i j : Int) : ogt (.int i) (.int j) = .ok (.bl (decide (j < i))) := rfl
@[simp] theorem oge_ii (i j : Int) : oge (.int i) (.int j) = .ok (.bl (decide (j ≤ i))) := rfl
@[simp] theorem oneg_i (i : Int) : oneg (.int i) = .ok (.int (-i)) := rfl
@[simp] theorem oeq_ii (i j : Int) : oeq (.int i) (.int j) = .ok (.bl (i == j)) := rfl
@[simp] theorem one_ii (i j : Int) : Py.one (.int i) (.int j) = .ok (.bl (!(i == j))) := rfl
@[simp] theorem bint_i (i : Int) : bint (.int i) = .ok (.int i) := rfl
@[simp] theorem bint_b (b : Bool) : bint (.bl b) = .ok (.int (b2i b)) := rfl
@[simp] theorem truthy_b (b : Bool) : truthy (.bl b) = .ok b := rfl
@[simp] theorem truthy_i (i : Int) : truthy (.int i) = .ok (i != 0) := rfl
@[simp] theorem blen_l (xs : List D) : blen (.lst xs) = .ok (.int xs.length) := rfl
@[simp] theorem blen_t (xs : List D) : blen (.tup xs) = .ok (.int xs.length) := rfl
@[simp] theorem btuple_l (xs : List D) : btuple (.lst xs) = .ok (.tup xs) := rfl
@[simp] theorem btuple_t (xs : List D) : btuple (.tup xs) = .ok (.tup xs) := rfl
@[simp] theorem blist_l (xs : List D) : blist (.lst xs) = .ok (.lst xs) := rfl
@[simp] theorem blist_t (xs : List D) : blist (.tup xs) = .ok (.lst xs) := rfl
@[simp] theorem onb_b (b : Bool) : onb (.bl b) = .ok (.bl (!b)) := rfl
/-! ### subscripts -/
theorem ixN_nat {n k : Nat} (h : k < n) : L2.ixN n (k : Int) = some k := by
  unfold L2.ixN
  simp [h]
theorem atI_nat {α : Type} {xs : List α} {k : Nat} (h : k < xs.length) : L2.atI xs (k : Int) = some xs[k] := by
  unfold L2.atI
  rw [ixN_nat h]
  simp [h]
theorem oidx_l {xs : List D} {k : Nat} {d : D} (h : xs[k]? = some d) : oidx (.lst xs) (.int (k : Int)) = .ok d := by
  have hk : k < xs.length := by
    rcases Nat.lt_or_ge k xs.length with h1 | h1
    · exact h1
    · rw [List.getElem?_eq_none h1] at h
      cases h
  unfold oidx
  simp only [atI_nat hk, opt]
  rw [List.getElem?_eq_getElem hk] at h
  rw [Option.some.inj h]
theorem oidx_t {xs : List D} {k : Nat} {d : D} (h : xs[k]? = some d) : oidx (.tup xs) (.int (k : Int)) = .ok d := by
  have q : oidx (.tup xs) (.int (k : Int)) = oidx (.lst xs) (.int (k : Int)) := rfl
  rw [q]
  exact oidx_l h
/-! ### loops -/
theorem rng_map (n : Nat) : rngL 0 (n : Int) = (List.range n).map fun i => D.int ((i : Nat) : Int) := by
  unfold rngL
  rw [Int.sub_zero, Int.toNat_natCast]
  refine List.map_congr_left fun i _ => ?_
  rw [Int.zero_add]
theorem rng_lt {n : Nat} (h : n ≤ 1000) : n < B62 := Nat.lt_of_le_of_lt h (by decide)
theorem irng1_int {a : EM} {e : Env} {i : Int} (h : a e = .ok (.int i)) : irng1 a e = if i.natAbs < B62 then .ok (rngL 0 i) else .stuck := by
  unfold irng1
  simp only [h, bind_ok]
theorem irng1_nat {a : EM} {e : Env} {n : Nat} (h : a e = .ok (.int (n : Int))) (hn : n < B62) : irng1 a e = .ok ((List.range n).map fun i => .int ((i : Nat) : Int)) := by
  rw [← rng_map, irng1_int h]
  exact if_pos hn
theorem forL_inv {b : D → Env → Res Fl} (I : Nat → Env → Prop) : ∀ {xs : List D} {e : Env} (k : Nat), I k e → (∀ i e, (h : i < xs.length) → I (k + i) e → ∃ e', b xs[i] e = .ok (.next e') ∧ I (k + i + 1) e') → ∃ e', forL b xs e = .ok (.next e') ∧ I (k + xs.length) e'
  | [], e, k, h, _ => ⟨e, rfl, h⟩
  | x :: xs, e, k, h, hb => by
    obtain ⟨e1, h1, i1⟩ := hb 0 e (by simp) h
    have h1' : b x e = .ok (.next e1) := h1
    obtain ⟨e2, h2, i2⟩ := forL_inv (xs := xs) I (k + 1) i1 fun i e' hi hI => by
      have hI' : I (k + (i + 1)) e' := by
        rw [show k + (i + 1) = k + 1 + i by omega]
        exact hI
      obtain ⟨e3, h3, i3⟩ := hb (i + 1) e' (by simpa using hi) hI'
      refine ⟨e3, by simpa using h3, ?_⟩
      rw [show k + 1 + i + 1 = k + (i + 1) + 1 by omega]
      exact i3
    refine ⟨e2, ?_, ?_⟩
    · unfold forL
      rw [h1']
      exact h2
    · rw [show k + (x :: xs).length = k + 1 + xs.length by simp; omega]
      exact i2
/-- for each of range(n) -/
theorem forR_inv {b : D → Env → Res Fl} (I : Nat → Env → Prop) {n : Nat} {e : Env} (h0 : I 0 e) (hb : ∀ i e, i < n → I i e → ∃ e', b (.int ((i : Nat) : Int)) e = .ok (.next e') ∧ I (i + 1) e') :
    ∃ e', forL b ((List.range n).map fun i => .int ((i : Nat) : Int)) e = .ok (.next e') ∧ I n e' := by
  have q := forL_inv (b := b) (xs := (List.range n).map fun i => .int ((i : Nat) : Int)) I 0 h0 fun i e' hi hI => by
    have hi' : i < n := by simpa using hi
    have := hb i e' hi' (by simpa using hI)
    simpa using this
  simpa using q
/-- for each: return if it is so -/
theorem forL_find {b : D → Env → Res Fl} {p : D → Bool} {d : D} {i : Nat} : ∀ {xs : List D} {e : Env}, (∀ x ∈ xs, ∀ o, b x (e.set i o) = if p x then .ok (.ret d) else .ok (.next (e.set i (some x)))) → (b' : ∀ x ∈ xs, b x e = if p x then .ok (.ret d) else .ok (.next (e.set i (some x)))) →
    (xs.any p = true → forL b xs e = .ok (.ret d)) ∧ (xs.any p = false → ∃ o, forL b xs e = .ok (.next o) ∧ (o = e ∨ ∃ x, o = e.set i (some x)))
  | [], e, _, _ => ⟨fun h => by simp at h, fun _ => ⟨e, rfl, .inl rfl⟩⟩
  | x :: xs, e, h, h' => by
    have q := h' x List.mem_cons_self
    cases e1 : p x with
    | true =>
      rw [e1] at q
      refine ⟨fun _ => ?_, fun z => by simp [e1] at z⟩
      unfold forL
      rw [q] <;> rfl
    | false =>
      rw [e1] at q
      have ss : ∀ o, (e.set i (some x)).set i o = e.set i o := fun o => by simp [List.set_set]
      obtain ⟨q1, q2⟩ := forL_find (xs := xs) (e := e.set i (some x)) (b := b) (p := p) (d := d) (i := i) (fun y hy o => by
        rw [ss, ss]
        exact h y (List.mem_cons_of_mem _ hy) o) (fun y hy => by
        rw [ss]
        exact h y (List.mem_cons_of_mem _ hy) (some x))
      have e2 : forL b (x :: xs) e = forL b xs (e.set i (some x)) := by
        rw [forL]
        rw [q] <;> rfl
      refine ⟨fun z => ?_, fun z => ?_⟩
      · rw [e2]
        exact q1 (by simpa [e1] using z)
      · rw [e2]
        obtain ⟨o, h1, h2⟩ := q2 (by simpa [e1] using z)
        refine ⟨o, h1, .inr ?_⟩
        rcases h2 with h2 | ⟨y, h2⟩
        · exact ⟨x, h2⟩
        · exact ⟨y, by rw [h2, ss]⟩
/-! ### comprehensions -/
/-! ### sums, all -/
theorem boolsOf_map : ∀ is : List Bool, boolsOf (is.map .bl) = some is
  | [] => rfl
  | i :: is => by
    simp only [List.map_cons, boolsOf, boolsOf_map is]
    rfl
theorem ball_bools (bs : List Bool) : ball (.lst (bs.map .bl)) = .ok (.bl (bs.all id)) := by
  unfold ball
  simp only [boolsOf_map]
/-! ### bits -/
theorem intBits_1 : (Builtin.Int.intBits 1 : Int) = 1 := by decide
theorem oshl1 (p : Nat) (h : p ≤ 1000) : oshl (.int 1) (.int (p : Int)) = .ok (.int (2 ^ p)) := by
  rw [oshl_ii ⟨Int.natCast_nonneg p, by rw [intBits_1]; omega⟩, Int.toNat_natCast, Int.one_mul]
end Py.U
/-! More about mirrors: comprehensions over made lists, enumerate, slices, draws. -/
namespace Py.U
open PySem
theorem lst_at (ns : List Int) {k : Nat} (h : k < ns.length) : oidx (.lst (ns.map .int)) (.int (k : Int)) = .ok (.int ns[k]) := oidx_l (by simp [h])
def Drawn : List Int → List Int → Prop
  | [], [] => True
  | d :: ds, s :: ss => (0 ≤ d ∧ d < s) ∧ Drawn ds ss
  | _, _ => False
theorem Drawn.snoc : ∀ {ds ss : List Int} {d s : Int}, Drawn ds ss → 0 ≤ d → d < s → Drawn (ds ++ [d]) (ss ++ [s])
  | [], [], _, _, _, h1, h2 => ⟨⟨h1, h2⟩, trivial⟩
  | d :: ds, s :: ss, _, _, h, h1, h2 => ⟨h.1, Drawn.snoc h.2 h1 h2⟩
  | [], _ :: _, _, _, h, _, _ => h.elim
  | _ :: _, [], _, _, h, _, _ => h.elim
theorem Drawn.length : ∀ {ds ss : List Int}, Drawn ds ss → ds.length = ss.length
  | [], [], _ => rfl
  | d :: ds, s :: ss, h => congrArg (· + 1) (Drawn.length h.2)
  | [], _ :: _, h => h.elim
  | _ :: _, [], h => h.elim
theorem le_sz {n : Nat} (h : n ≤ 1000) : n ≤ SZ := Nat.le_trans h (by decide)
theorem compL_mapI {α : Type} {f : D → Res (Option D)} {k h : α → D} : ∀ {ys : List α}, (∀ y ∈ ys, f (k y) = .ok (some (h y))) → compL f (ys.map k) = .ok (ys.map h)
  | [], _ => rfl
  | y :: ys, q => by
    rw [List.map_cons, List.map_cons]
    unfold compL
    rw [q y List.mem_cons_self, compL_mapI fun z hz => q z (List.mem_cons_of_mem _ hz)] <;> rfl
theorem lc_mapI {α : Type} {it : IM} {vs : List Nat} {g : GM} {elt : EM} {e : Env} {ys : List α} {k h : α → D} (hi : it e = .ok (ys.map k)) (hz : ys.length ≤ SZ) (hx : ∀ y ∈ ys, ∃ e1, g (k y) (wipe e vs) = some e1 ∧ elt e1 = .ok (h y)) : lcE it vs g yes elt e = .ok (.lst (ys.map h)) := by
  unfold lcE
  rw [hi]
  have q : compL (compF vs g yes elt e) (ys.map k) = .ok (ys.map h) := compL_mapI fun x hm => by
    obtain ⟨e1, h1, h2⟩ := hx x hm
    unfold compF
    rw [h1]
    simp [yes, h2]
  simp only [bind_ok, q, noexc_ok, List.length_map]
  exact chk_ok hz
theorem seq_next {a b : SM} {e e' : Env} (h : a e = .ok (.next e')) : seq a b e = b e' := by
  rw [seq_eq, h]
  rfl
theorem oidx_mem {xs : List D} {i : Int} (h0 : 0 ≤ i) (h1 : i < (xs.length : Int)) : ∃ d ∈ xs, oidx (.lst xs) (.int i) = .ok d := by
  obtain ⟨k, rfl⟩ : ∃ k : Nat, i = (k : Int) := ⟨i.toNat, by omega⟩
  have hk : k < xs.length := by omega
  exact ⟨xs[k], List.getElem_mem hk, oidx_l (by simp [hk])⟩
theorem cut_mem {α : Type} {xs : List α} {lo hi : Option Int} {x : α} (h : x ∈ cut xs lo hi) : x ∈ xs := List.mem_of_mem_drop (List.mem_of_mem_take h)
theorem cut_len {α : Type} {xs : List α} {lo hi : Option Int} : (cut xs lo hi).length ≤ xs.length := by
  unfold cut
  rw [List.length_take, List.length_drop]
  omega
theorem oslc_l (xs : List D) (lo hi : Option Int) : oslc (.lst xs) lo hi = .ok (.lst (cut xs lo hi)) := rfl
theorem oadd_ll {a b : List D} (h : a.length + b.length ≤ SZ) : oadd (.lst a) (.lst b) = .ok (.lst (a ++ b)) := if_pos h
theorem slc_eq (a : EM) (lo hi : Option EM) (e : Env) : slc a lo hi e = (a e >>= fun x => slc.bnd lo e >>= fun i => slc.bnd hi e >>= fun j => oslc x i j) := rfl
theorem bnd_none (e : Env) : slc.bnd none e = .ok none := rfl
theorem bnd_some (m : EM) (e : Env) : slc.bnd (some m) e = (m e >>= fun d => match d with | .int i => .ok (some i) | _ => .stuck) := rfl
end Py.U
namespace Py.U
open PySem
theorem cell_ok (ns : List Int) (k : Nat) : ∃ c : Int, m_law_cell [.lst (ns.map .int), .int (k : Int)] = .ok (.int c) := by
  unfold m_law_cell
  rw [fn2]
  unfold b__law_cell
  by_cases h : k < ns.length
  · have h' : (k : Int) < (ns.length : Int) := by omega
    refine ⟨ns[k], ?_⟩
    simp [var, h', lst_at ns h]
  · have h' : ¬ (k : Int) < (ns.length : Int) := by omega
    by_cases h0 : 0 < ns.length
    · have h0' : (0 : Int) < (ns.length : Int) := by omega
      have hm : k % ns.length < ns.length := Nat.mod_lt _ h0
      have e1 : omod (.int (k : Int)) (.int (ns.length : Int)) = .ok (.int ((k : Int) % (ns.length : Int))) := omod_ii h0'
      have e2 := lst_at ns hm
      rw [Int.natCast_emod] at e2
      refine ⟨ns[k % ns.length] % 100003 + 7919 * k, ?_⟩
      simp [var, h', h0, e1, e2, omod_ii, omul_l, omul_r]
    · refine ⟨7919 * k + 5, ?_⟩
      simp [var, h', h0, omul_l, omul_r]
theorem mixed_ok (c k : Int) : ∃ r : Int, 0 ≤ r ∧ r < 125000001 ∧ m_law_mixed [.int c, .int k] = .ok (.int r) := by
  unfold m_law_mixed
  rw [fn2]
  unfold b__law_mixed
  have a0 := Int.emod_nonneg (c * 48271 + k * 1103515245 + 12345) (b := 2147483647) (by decide)
  have a1 := Int.emod_lt_of_pos (c * 48271 + k * 1103515245 + 12345) (b := 2147483647) (by decide)
  generalize e1 : (c * 48271 + k * 1103515245 + 12345) % 2147483647 = a at a0 a1
  have b0 := Int.emod_nonneg (a * a + 69621) (b := 2147483563) (by decide)
  have b1 := Int.emod_lt_of_pos (a * a + 69621) (b := 2147483563) (by decide)
  generalize e2 : (a * a + 69621) % 2147483563 = b at b0 b1
  have m1 : omul (.int a) (.int a) = .ok (.int (a * a)) := omul_ii (by unfold B64; omega)
  have m2 : omul (.int b) (.int (b % 65521 + 3)) = .ok (.int (b * (b % 65521 + 3))) := omul_ii (by unfold B64; omega)
  have c0 := Int.emod_nonneg (b * (b % 65521 + 3)) (b := 1000000007) (by decide)
  have c1 := Int.emod_lt_of_pos (b * (b % 65521 + 3)) (b := 1000000007) (by decide)
  refine ⟨b * (b % 65521 + 3) % 1000000007 / 8, by omega, by omega, ?_⟩
  simp [var, omod_ii, omul_l, omul_r, ofdiv_ii, e1, e2, m1, m2]
def DI (c : Int) (ss : List Int) (i : Nat) (e : Env) : Prop := ∃ (ds : List Int) (l : Int) (o : Option D), Drawn ds (ss.take i) ∧ e = [some (.int c), some (.lst (ss.map .int)), some (.lst (ds.map .int)), some (.int l), o]
def drawB : SM := Py.ite (andT (tst (bin oge (var 0) (bin opow (cst (.int 10)) (cst (.int 18))))) (andT (tst (bin olt (var 4) (cst (.int 60)))) (tst (bin ogt (var 3) (cst (.int 0)))))) (seq (app 2 (bin omod (un bint (var 3)) (bin oidx (var 1) (var 4))))
  (asg (gnm 3) (bin ofdiv (var 3) (bin oidx (var 1) (var 4))))) (app 2 (bin omod (call m_law_mixed (argC (var 0) (argC (var 4) argN))) (bin oidx (var 1) (var 4))))
theorem draw1 {c l z s r : Int} {ss ds : List Int} {o : Option D} (ix : oidx (.lst (ss.map .int)) (.int z) = .ok (.int s)) (h1 : 0 < s) (h2 : s < 1073741824) (hr : m_law_mixed [.int c, .int z] = .ok (.int r)) (hl : ds.length < SZ) :
    drawB [some (.int c), some (.lst (ss.map .int)), some (.lst (ds.map .int)), some (.int l), some (.int z)] =
      if 1000000000000000000 ≤ c ∧ z < 60 ∧ 0 < l then .ok (.next [some (.int c), some (.lst (ss.map .int)), some (.lst ((ds ++ [l % s]).map .int)), some (.int (l / s)), some (.int z)])
      else .ok (.next [some (.int c), some (.lst (ss.map .int)), some (.lst ((ds ++ [r % s]).map .int)), some (.int l), some (.int z)]) := by
  have hp := opow18
  have hl2 : (ds.map D.int).length < SZ := by rw [List.length_map]; exact hl
  unfold drawB
  by_cases g1 : (1000000000000000000 : Int) ≤ c
  · by_cases g2 : z < 60
    · by_cases g3 : 0 < l
      · simp [var, hp, g1, g2, g3, ix, omod_ii h1, ofdiv_ii ⟨h1, h2⟩, hl]
      · simp [var, hp, g1, g2, g3, ix, omod_ii h1, hr, hl]
    · simp [var, hp, g1, g2, ix, omod_ii h1, hr, hl]
  · simp [var, hp, g1, ix, omod_ii h1, hr, hl]
theorem draw_step {c : Int} {ss : List Int} (hz : ss.length < 1000) (hs : ∀ s ∈ ss, 0 < s ∧ s < 1073741824) : ∀ i e, i < ss.length → DI c ss i e → ∃ e', forB (gnm 4) drawB (.int ((i : Nat) : Int)) e = .ok (.next e') ∧ DI c ss (i + 1) e' := by
    rintro i e hi ⟨ds, l, o, hd, rfl⟩
    have hl := hd.length
    rw [List.length_take] at hl
    have hl2 : ds.length < SZ := by
      have : ds.length < 1000 := by omega
      exact Nat.lt_trans this (by decide)
    obtain ⟨h1, h2⟩ := hs ss[i] (List.getElem_mem hi)
    have ix := lst_at ss hi
    have ht : ss.take (i + 1) = ss.take i ++ [ss[i]] := by rw [List.take_add_one]; simp [hi]
    obtain ⟨r, r0, r1, hr⟩ := mixed_ok c i
    have q := draw1 (l := l) (o := o) ix h1 h2 hr hl2
    rw [forB_eq, gnm_eq, lift_some, bind_ok]
    by_cases g : (1000000000000000000 : Int) ≤ c ∧ (i : Int) < 60 ∧ 0 < l
    · rw [if_pos g] at q
      exact ⟨_, q, ds ++ [l % ss[i]], l / ss[i], _, by rw [ht]; exact hd.snoc (Int.emod_nonneg _ (by omega)) (Int.emod_lt_of_pos _ h1), rfl⟩
    · rw [if_neg g] at q
      exact ⟨_, q, ds ++ [r % ss[i]], l, _, by rw [ht]; exact hd.snoc (Int.emod_nonneg _ (by omega)) (Int.emod_lt_of_pos _ h1), rfl⟩
theorem v1 (c : Int) (ss : List Int) (hz : ss.length < 1000) (hs : ∀ s ∈ ss, 0 < s ∧ s < 1073741824) : ∃ ds : List Int, Drawn ds ss ∧ ∃ l o, forL (forB (gnm 4) drawB) ((List.range ss.length).map fun i => .int ((i : Nat) : Int)) [some (.int c), some (.lst (ss.map .int)), some (.lst []), some (.int c), none] = .ok (.next [some (.int c), some (.lst (ss.map .int)), some (.lst (ds.map .int)), some (.int l), o]) := by
  obtain ⟨e', h1, ds, l, o, hd, rfl⟩ := forR_inv (e := [some (.int c), some (.lst (ss.map .int)), some (.lst []), some (.int c), none]) (DI c ss) ⟨[], c, none, by simp [Drawn], rfl⟩ (draw_step hz hs)
  rw [List.take_length] at hd
  exact ⟨ds, hd, l, o, h1⟩
theorem v2 (c : Int) (ss : List Int) (hz : ss.length < 1000) : irng1 (un blen (var 1)) [some (.int c), some (.lst (ss.map .int)), some (.lst []), some (.int c), none] = .ok ((List.range ss.length).map fun i => .int ((i : Nat) : Int)) := by
  have hn : ss.length < B62 := rng_lt (by omega)
  exact irng1_nat (n := ss.length) (by simp [var]) hn
theorem draws_ok (c : Int) (ss : List Int) (hz : ss.length < 1000) (hs : ∀ s ∈ ss, 0 < s ∧ s < 1073741824) : ∃ ds : List Int, Drawn ds ss ∧ m_law_draws [.int c, .lst (ss.map .int)] = .ok (.lst (ds.map .int)) := by
  obtain ⟨ds, hd, l, o, h1⟩ := v1 c ss hz hs
  have hr := v2 c ss hz
  refine ⟨ds, hd, ?_⟩
  unfold m_law_draws
  rw [fn2]
  unfold b__law_draws
  have hc : chk ([] : List D).length (.lst []) = .ok (.lst []) := rfl
  show done (seq (asg (gnm 2) (lstE argN)) (seq (asg (gnm 3) (var 0)) (seq (for_ (irng1 (un blen (var 1))) (gnm 4) drawB) (ret (var 2)))) [some (.int c), some (.lst (ss.map .int)), none, none, none]) = _
  rw [seq_eq, asg_eq, lstE_eq, argN_eq, bind_ok, hc, bind_ok, gnm_eq, lift_some, bind_ok, bind_ok]
  dsimp only
  rw [seq_eq, asg_eq]
  have e1 : var 0 (List.set [some (D.int c), some (D.lst (ss.map .int)), none, none, none] 2 (some (D.lst []))) = .ok (.int c) := rfl
  rw [e1, bind_ok, gnm_eq, lift_some, bind_ok, bind_ok]
  dsimp only
  rw [seq_eq, for_eq]
  have e2 : irng1 (un blen (var 1)) (List.set (List.set [some (D.int c), some (D.lst (ss.map .int)), none, none, none] 2 (some (D.lst []))) 3 (some (D.int c))) = _ := hr
  rw [e2, bind_ok]
  have e3 : forL (forB (gnm 4) drawB) ((List.range ss.length).map fun i => .int ((i : Nat) : Int)) (List.set (List.set [some (D.int c), some (D.lst (ss.map .int)), none, none, none] 2 (some (D.lst []))) 3 (some (D.int c))) = _ := h1
  rw [e3, bind_ok]
  rfl
def nD (n : Nat) : D := .int (n : Int)
theorem mod_nat (z : Int) {n : Nat} (h : 0 < n) : ∃ a : Nat, a < n ∧ z % (n : Int) = (a : Int) := by
  have h0 : (0 : Int) < (n : Int) := by omega
  have a0 := Int.emod_nonneg z (b := (n : Int)) (by omega)
  have a1 := Int.emod_lt_of_pos z h0
  exact ⟨(z % (n : Int)).toNat, by omega, by omega⟩
/-! ### what deeds do, bit by bit -/
theorem nat_eq (a b : Nat) : oeq (nD a) (nD b) = .ok (.bl (decide (a = b))) := by
  unfold nD
  rw [oeq_ii]
  congr 2
  rw [Bool.eq_iff_iff]
  simp only [beq_iff_eq, decide_eq_true_eq]
  exact Int.ofNat_inj
theorem str_eq (a b : String) : oeq (.str a) (.str b) = .ok (.bl (a == b)) := rfl
theorem nadd (a b : Nat) : oadd (nD a) (nD b) = .ok (nD (a + b)) := by
  unfold nD
  rw [oadd_ii]
  rfl
/-! ### numbers from nought -/
theorem shl_nD {n : Nat} (h : n ≤ 1000) : oshl (.int 1) (nD n) = .ok (nD (2 ^ n)) := by
  unfold nD
  rw [oshl1 n h]
  simp
theorem cut_take {α : Type} (xs : List α) {k : Nat} (h : k ≤ xs.length) : cut xs none (some (k : Int)) = xs.take k := by
  unfold cut
  have e0 : HT.sIx xs.length 0 none = 0 := rfl
  have e1 : HT.sIx xs.length xs.length (some (k : Int)) = k := by rw [HT.sIx_nat, Nat.min_eq_left h]
  rw [e0, e1, List.drop_zero, Nat.sub_zero]
/-! ### letters drawn -/
theorem rep_one (w : Int) (k : Nat) (h : k ≤ 1000) : olrep (.lst [.int w]) (.int (k : Int)) = .ok (.lst ((List.replicate k w).map D.int)) := by
  have e0 : olrep (.lst [.int w]) (.int (k : Int)) = .ok (.lst (List.replicate (k : Int).toNat [.int w]).flatten) := if_pos ⟨by simp, by simpa using h⟩
  rw [e0, Int.toNat_natCast]
  have e : ∀ n : Nat, (List.replicate n [D.int w]).flatten = (List.replicate n w).map D.int := fun n => by
    induction n with
    | zero => rfl
    | succ n ih => simp [List.replicate_succ, ih]
  rw [e]
theorem drawn_low : ∀ {ds : List Int} {w k : Nat}, Drawn ds (List.replicate k (w : Int)) → ∃ ls : List Nat, ds.map D.int = ls.map nD ∧ ls.length = k ∧ ∀ l ∈ ls, l < w
  | [], w, 0, _ => ⟨[], rfl, rfl, by simp⟩
  | d :: ds, w, k + 1, h => by
    obtain ⟨⟨h1, h2⟩, h3⟩ := (h : (0 ≤ d ∧ d < (w : Int)) ∧ Drawn ds (List.replicate k (w : Int)))
    obtain ⟨ls, e1, e2, e3⟩ := drawn_low h3
    refine ⟨d.toNat :: ls, ?_, by simp [e2], fun l hl => ?_⟩
    · rw [List.map_cons, List.map_cons, e1]
      unfold nD
      rw [Int.toNat_of_nonneg h1]
    · rcases List.mem_cons.mp hl with rfl | hl
      · omega
      · exact e3 l hl
  | [], w, k + 1, h => h.elim
  | d :: ds, w, 0, h => h.elim
theorem low_draws (c : Int) {w k : Nat} (hw : 0 < w ∧ w < 1000000) (hk : k < 1000) : ∃ ls : List Nat, m_law_draws [.int c, .lst ((List.replicate k (w : Int)).map D.int)] = .ok (.lst (ls.map nD)) ∧ ls.length = k ∧ ∀ l ∈ ls, l < w := by
  obtain ⟨ds, hd, q⟩ := draws_ok c (List.replicate k (w : Int)) (by simpa using hk) (fun s hs => by
    have e := List.eq_of_mem_replicate hs
    rw [e]
    omega)
  obtain ⟨ls, e1, e2, e3⟩ := drawn_low hd
  rw [e1] at q
  exact ⟨ls, q, e2, e3⟩
structure Tab (S L B : Nat) (t : List (List Nat)) : Prop where
  len : t.length = S
  row : ∀ r ∈ t, r.length = L ∧ ∀ x ∈ r, x < B
theorem Tab.get {S L B : Nat} {t : List (List Nat)} (h : Tab S L B t) {i : Nat} (hi : i < S) : ∃ r, t[i]? = some r ∧ t.getD i [] = r ∧ r.length = L ∧ ∀ x ∈ r, x < B := by
  have hl : i < t.length := by rw [h.len]; exact hi
  obtain ⟨h1, h2⟩ := h.row t[i] (List.getElem_mem hl)
  exact ⟨t[i], by simp [hl], by simp [hl], h1, h2⟩
/-! ### tables -/
def rD (r : List Nat) : D := .tup (r.map nD)
theorem cut_two {α : Type} (xs : List α) {i j : Nat} (h : i ≤ j) (h2 : j ≤ xs.length) : cut xs (some (i : Int)) (some (j : Int)) = (xs.drop i).take (j - i) := by
  unfold cut
  have e0 : HT.sIx xs.length 0 (some (i : Int)) = i := by rw [HT.sIx_nat, Nat.min_eq_left (by omega)]
  have e1 : HT.sIx xs.length xs.length (some (j : Int)) = j := by rw [HT.sIx_nat, Nat.min_eq_left h2]
  rw [e0, e1]
theorem nmul {a b : Nat} (h : a ≤ 1000) : omul (nD a) (nD b) = .ok (nD (a * b)) := by
  unfold nD
  rw [omul_l (by omega) (by omega)]
  simp
theorem table_ok (c : Int) {S L B : Nat} (hS : S ≤ 30) (hL : L ≤ 30) (hB : 0 < B ∧ B < 1000000) : ∃ t, Tab S L B t ∧ m_law_table [.int c, nD S, nD L, nD B] = .ok (.lst (t.map rD)) := by
  have hSL : S * L ≤ 900 := Nat.mul_le_mul hS hL
  obtain ⟨ls, h1, h2, h3⟩ := low_draws c hB (k := S * L) (by omega)
  have hle : ∀ s, s < S → s * L + L ≤ ls.length := fun s hs => by
    rw [h2]
    have := Nat.mul_le_mul_right L hs
    rw [Nat.succ_mul] at this
    exact this
  refine ⟨(List.range S).map fun s => (ls.drop (s * L)).take L, ⟨by simp, fun r hr => ?_⟩, ?_⟩
  · obtain ⟨s, hs, rfl⟩ := List.mem_map.mp hr
    have hs2 : s < S := by simpa using hs
    have := hle s hs2
    refine ⟨?_, fun x hx => h3 x (List.mem_of_mem_drop (List.mem_of_mem_take hx))⟩
    rw [List.length_take, List.length_drop]
    omega
  · have r1 := rep_one (B : Int) (S * L) (by omega)
    have m1 := nmul (a := S) (b := L) (by omega)
    have hc : ∀ a b, lcE (irng1 (var 1)) [5] (gnm 5) yes (un btuple (slc (var 4) (some (bin omul (var 5) (var 2))) (some (bin omul (bin oadd (var 5) (cst (.int 1))) (var 2))))) [some (.int c), some (nD S), some (nD L), a, some (.lst (ls.map nD)), b] = .ok (.lst (((List.range S).map fun s => (ls.drop (s * L)).take L).map rD)) := fun a b => by
      rw [List.map_map]
      refine lc_mapI (k := fun i => .int ((i : Nat) : Int)) (irng1_nat (by simp [var, nD]) (rng_lt (by omega))) (by rw [List.length_range]; exact le_sz (by omega)) fun s hs => ?_
      have hs2 : s < S := by simpa using hs
      have e1 : omul (.int (s : Int)) (nD L) = .ok (nD (s * L)) := nmul (a := s) (by omega)
      have e2 : oadd (.int (s : Int)) (.int 1) = .ok (nD (s + 1)) := nadd s 1
      have e3 : omul (nD (s + 1)) (nD L) = .ok (nD ((s + 1) * L)) := nmul (by omega)
      have e4 : oslc (.lst (ls.map nD)) (some ((s * L : Nat) : Int)) (some (((s + 1) * L : Nat) : Int)) = .ok (.lst (((ls.drop (s * L)).take L).map nD)) := by
        have := hle s hs2
        rw [oslc_l, cut_two _ (by rw [Nat.succ_mul]; omega) (by rw [List.length_map, Nat.succ_mul]; exact this), Nat.succ_mul, Nat.add_sub_cancel_left, List.map_take, List.map_drop]
      show ∃ e1, _ ∧ _ = Res.ok (D.tup (((ls.drop (s * L)).take L).map nD))
      change omul _ _ = .ok (.int ((s * L : Nat) : Int)) at e1
      change omul _ _ = .ok (.int (((s + 1) * L : Nat) : Int)) at e3
      generalize ((s * L : Nat) : Int) = i1 at *
      generalize (((s + 1) * L : Nat) : Int) = i2 at *
      generalize nD (s + 1) = i3 at *
      generalize ((ls.drop (s * L)).take L).map nD = T at *
      generalize (s : Int) = z at *
      generalize ls.map nD = LS at *
      generalize nD L = l at *
      exact ⟨_, rfl, by simp only [wipe]; simp [var, slc_eq, bnd_some, e1, e2, e3, e4]⟩
    unfold m_law_table
    rw [fn4]
    unfold b__law_table
    change omul _ _ = .ok (.int ((S * L : Nat) : Int)) at m1
    change olrep (.lst [nD B]) _ = _ at r1
    generalize ((S * L : Nat) : Int) = z at *
    generalize ((List.range S).map fun s => (ls.drop (s * L)).take L).map rD = T at *
    generalize (List.replicate (S * L) (B : Int)).map D.int = RS at *
    generalize ls.map nD = LS at *
    generalize nD S = s at *
    generalize nD L = l at *
    generalize nD B = b at *
    simp [var, r1, m1, h1, hc]
/-! ### walking a long body -/
theorem chk_pass {c : TM} {r b : SM} {e : Env} (h : c e = .ok false) : seq (Py.ite c b skip) r e = r e := by
  refine seq_next ?_
  unfold Py.ite
  rw [h, bind_ok]
  rfl
theorem asg_pass {i : Nat} {m : EM} {r : SM} {e : Env} {d : D} (h : m e = .ok d) : seq (asg (gnm i) m) r e = r (e.set i (some d)) := by
  refine seq_next ?_
  rw [asg_eq, h]
  rfl
theorem for_pass {it : IM} {g : GM} {b r : SM} {e e' : Env} {xs : List D} (h : it e = .ok xs) (h2 : forL (forB g b) xs e = .ok (.next e')) : seq (for_ it g b) r e = r e' := by
  refine seq_next ?_
  rw [for_eq, h]
  exact h2
theorem ite_in {c : TM} {r b : SM} {e e' : Env} (h : c e = .ok true) (h2 : b e = .ok (.next e')) : seq (Py.ite c b skip) r e = r e' := by
  refine seq_next ?_
  unfold Py.ite
  rw [h, bind_ok]
  exact h2
/-! ### any value at all: numbers in range, marks, readings -/
def gd : D → Bool
  | .ins c _ => c == "Machine"
  | _ => true
def belowD (t : Nat) : D → Bool
  | .int z => decide (0 ≤ z) && decide (z < (t : Int))
  | _ => false
theorem isi_any {ts : List Ty} {d : D} (h : gd d = true) (ht : (ts.all fun t => inCs CS t && decide (t ≠ .non)) = true) : oisi CS ts d = .ok (.bl (ts.any fun t => isI t d)) := by
  have h1 : inCs CS (tyOf d) = true := by
    cases d with
    | ins c fs =>
      have hc : c = "Machine" := by simpa [gd] using h
      subst hc
      rfl
    | _ => rfl
  unfold oisi
  rw [h1, Bool.true_and]
  exact if_pos ht
theorem isint_any {d : D} (h : gd d = true) : m_is_integer [d] = .ok (.bl (isI .int d && !isI .bl d)) := by
  have e1 := isi_any (ts := [.int]) h rfl
  have e2 := isi_any (ts := [.bl]) h rfl
  unfold m_is_integer
  rw [fn1]
  unfold b_is_integer
  simp only [List.any_cons, List.any_nil, Bool.or_false] at e1 e2
  cases hi : isI .int d <;> simp [var, e1, e2, hi]
theorem not_int {d : D} (h : (isI .int d && !isI .bl d) = true) : ∃ z, d = .int z := by
  cases d <;> first | exact ⟨_, rfl⟩ | simp [isI] at h
theorem below_not {d : D} (h : (isI .int d && !isI .bl d) = false) (t : Nat) : belowD t d = false := by
  cases d <;> first | rfl | simp [isI] at h
theorem below_any {d : D} (h : gd d = true) (t : Nat) : m_is_below [d, nD t] = .ok (.bl (belowD t d)) := by
  have e := isint_any h
  unfold m_is_below
  rw [fn2]
  unfold b_is_below
  unfold nD
  cases hi : (isI .int d && !isI .bl d) with
  | true =>
    obtain ⟨z, rfl⟩ := not_int hi
    rw [hi] at e
    unfold belowD
    generalize (t : Int) = T at *
    by_cases h0 : 0 ≤ z <;> simp [var, e, h0]
  | false =>
    rw [hi] at e
    rw [below_not hi]
    generalize (t : Int) = T at *
    simp [var, e]
theorem range_any {d : D} (h : gd d = true) (t : Nat) : m_law_in_range [d, .int 0, .int ((t : Int) - 1)] = .ok (.bl (belowD t d)) := by
  have e1 := isi_any (ts := [.int]) h rfl
  have e2 := isi_any (ts := [.bl]) h rfl
  simp only [List.any_cons, List.any_nil, Bool.or_false] at e1 e2
  unfold m_law_in_range
  rw [fn3]
  unfold b__law_in_range
  cases hi : (isI .int d && !isI .bl d) with
  | true =>
    obtain ⟨z, rfl⟩ := not_int hi
    rw [show belowD t (.int z) = (decide (0 ≤ z) && decide (z < (t : Int))) from rfl]
    have hz : decide (z < (t : Int)) = decide (z ≤ (t : Int) - 1) := decide_eq_decide.mpr (by omega)
    rw [hz]
    generalize (t : Int) = T at *
    have e3 : isI .int (.int z) = true := rfl
    have e4 : isI .bl (.int z) = false := rfl
    rw [e3] at e1
    rw [e4] at e2
    by_cases h0 : 0 ≤ z <;> simp [var, e1, e2, h0]
  | false =>
    rw [below_not hi]
    generalize (t : Int) = T at *
    rw [Bool.and_eq_false_iff] at hi
    cases h1 : isI .int d with
    | false =>
      rw [h1] at e1
      simp [var, e1]
    | true =>
      have h2 : isI .bl d = true := by
        rcases hi with hi | hi
        · rw [h1] at hi
          cases hi
        · simpa using hi
      rw [h1] at e1
      rw [h2] at e2
      simp [var, e1, e2]
theorem isI_tup {v : D} (h : isI .tup v = true) : ∃ xs, v = .tup xs := by
  cases v <;> first | exact ⟨_, rfl⟩ | simp [isI] at h
/-! ### errors -/
theorem tryE_exc {es : List String} {i : Nat} {b : SM} {h : String → List (String × D) → SM} {e : Env} {c : String} {fs : List (String × D)} {d : D} (h1 : b e = .exc c fs) (h2 : (es.contains c && decide (i < e.length)) = true) (h3 : h c fs (e.set i none) = .ok (.ret d)) : tryE es i b h e = .ok (.ret d) := by
  unfold tryE
  rw [h1]
  dsimp only
  rw [if_pos h2, h3]
@[simp] theorem done_exc (c : String) (fs : List (String × D)) : done (.exc c fs) = .exc c fs := rfl
theorem rais_1 {c f : String} {m : EM} {e : Env} {d : D} (h : m e = .ok d) : rais c [f] (argC m argN) e = .exc c [(f, d)] := by
  unfold rais
  simp [h]
theorem drop_exc {f : List D → Res D} {a : AM} {e : Env} {ds : List D} {c : String} {fs : List (String × D)} (h1 : a e = .ok ds) (h2 : f ds = .exc c fs) : Py.drop (call f a) e = .exc c fs := by
  rw [drop_eq, call_eq, h1, bind_ok, h2]
  rfl
theorem oadd_tt {a b : List D} (h : a.length + b.length ≤ SZ) : oadd (.tup a) (.tup b) = .ok (.tup (a ++ b)) := if_pos h
/-! ### wrong letters -/
theorem opow30 : opow (.int 10) (.int 30) = .ok (.int 1000000000000000000000000000000) := rfl
end Py.U
namespace Py.U
open PySem
/-! ### the first that is not so -/
def firstF (p : Nat → Bool) (k : Nat) : Nat → Option Nat
  | 0 => none
  | m + 1 => if p k then firstF p (k + 1) m else some k
theorem firstF_lt {p : Nat → Bool} : ∀ {m k j : Nat}, firstF p k m = some j → k ≤ j ∧ j < k + m
  | 0, k, j, h => by cases h
  | m + 1, k, j, h => by
    unfold firstF at h
    cases hp : p k with
    | true =>
      rw [hp] at h
      have := firstF_lt (m := m) h
      omega
    | false =>
      rw [hp] at h
      have : k = j := by simpa using h
      omega
theorem firstF_cut {p : Nat → Bool} : ∀ (m d k : Nat), firstF p k m = match firstF p k (m + d) with | some j => if j < k + m then some j else none | none => none
  | 0, d, k => by
    cases h : firstF p k (0 + d) with
    | none => rfl
    | some j =>
      have := firstF_lt h
      show none = if j < k + 0 then some j else none
      rw [if_neg (by omega)]
  | m + 1, d, k => by
    rw [show m + 1 + d = (m + d) + 1 by omega]
    unfold firstF
    cases hp : p k with
    | true =>
      rw [if_pos rfl, if_pos rfl, firstF_cut m d (k + 1), show k + 1 + m = k + (m + 1) by omega]
    | false =>
      rw [if_neg (by simp), if_neg (by simp)]
      dsimp only
      rw [if_pos (by omega)]
theorem forL_first {b : D → Env → Res Fl} {I : Env → Prop} {p : Nat → Bool} {R : Nat → Res Fl} {v : Nat → D} (hR : ∀ j, (∃ d, R j = .ok (.ret d)) ∨ ∃ c fs, R j = .exc c fs) : ∀ (m k : Nat) (e : Env), I e →
    (∀ i e, k ≤ i → i < k + m → I e → (p i = true → ∃ e', b (v i) e = .ok (.next e') ∧ I e') ∧ (p i = false → b (v i) e = R i)) →
    (∀ j, firstF p k m = some j → forL b ((List.range' k m).map v) e = R j) ∧ (firstF p k m = none → ∃ e', forL b ((List.range' k m).map v) e = .ok (.next e') ∧ I e')
  | 0, k, e, hI, _ => ⟨fun j h => (by cases h), fun _ => ⟨e, rfl, hI⟩⟩
  | m + 1, k, e, hI, hb => by
    obtain ⟨h1, h2⟩ := hb k e (Nat.le_refl _) (by omega) hI
    rw [List.range'_succ, List.map_cons]
    unfold firstF
    cases hp : p k with
    | true =>
      obtain ⟨e', q, hI'⟩ := h1 hp
      have ih := forL_first hR m (k + 1) e' hI' fun i e h3 h4 h5 => hb i e (by omega) (by omega) h5
      have e2 : forL b (v k :: (List.range' (k + 1) m).map v) e = forL b ((List.range' (k + 1) m).map v) e' := by
        rw [forL]
        rw [q] <;> rfl
      rw [if_pos rfl, e2]
      exact ih
    | false =>
      have q := h2 hp
      have e2 : forL b (v k :: (List.range' (k + 1) m).map v) e = R k := by
        rw [forL]
        rw [q]
        rcases hR k with ⟨d, h⟩ | ⟨c, fs, h⟩ <;> rw [h]
      rw [if_neg (by simp), e2]
      exact ⟨fun j h => by
        have : k = j := by simpa using h
        rw [this], fun h => by cases h⟩
/-! ### inputs -/
def inD : D → Bool
  | .int z => decide (1 ≤ z) && decide (z ≤ 3)
  | _ => false
theorem in_not {d : D} (h : (isI .int d && !isI .bl d) = false) : inD d = false := by
  cases d <;> first | rfl | simp [isI] at h
theorem inputs_any {d : D} (h : gd d = true) : m_is_inputs [d] = .ok (.bl (inD d)) := by
  have e := isint_any h
  unfold m_is_inputs
  rw [fn1]
  unfold b_is_inputs
  cases hi : (isI .int d && !isI .bl d) with
  | true =>
    obtain ⟨z, rfl⟩ := not_int hi
    rw [hi] at e
    unfold inD
    by_cases h0 : 1 ≤ z <;> simp [var, e, h0]
  | false =>
    rw [hi] at e
    rw [in_not hi]
    simp [var, e]
theorem inrange_any {d : D} (h : gd d = true) : m_law_in_range [d, .int 1, .int 3] = .ok (.bl (inD d)) := by
  have e1 := isi_any (ts := [.int]) h rfl
  have e2 := isi_any (ts := [.bl]) h rfl
  simp only [List.any_cons, List.any_nil, Bool.or_false] at e1 e2
  unfold m_law_in_range
  rw [fn3]
  unfold b__law_in_range
  cases hi : (isI .int d && !isI .bl d) with
  | true =>
    obtain ⟨z, rfl⟩ := not_int hi
    unfold inD
    have e3 : isI .int (.int z) = true := rfl
    have e4 : isI .bl (.int z) = false := rfl
    rw [e3] at e1
    rw [e4] at e2
    by_cases h0 : 1 ≤ z <;> simp [var, e1, e2, h0]
  | false =>
    rw [in_not hi]
    rw [Bool.and_eq_false_iff] at hi
    cases h1 : isI .int d with
    | false =>
      rw [h1] at e1
      simp [var, e1]
    | true =>
      have h2 : isI .bl d = true := by
        rcases hi with hi | hi
        · rw [h1] at hi
          cases hi
        · simpa using hi
      rw [h1] at e1
      rw [h2] at e2
      simp [var, e1, e2]
theorem inD_nat {d : D} (h : inD d = true) : ∃ n : Nat, d = nD n ∧ 1 ≤ n ∧ n ≤ 3 := by
  cases d with
  | int z =>
    simp only [inD, Bool.and_eq_true, decide_eq_true_eq] at h
    refine ⟨z.toNat, ?_, by omega, by omega⟩
    unfold nD
    congr 1
    omega
  | _ => simp [inD] at h
/-! ### lines -/
structure LnV (b : Nat) (v : D) : Prop where
  top : gd v = true
  mem : ∀ xs, v = .tup xs → (∀ x ∈ xs, gd x = true) ∧ xs.length ≤ b
def lineok (w t : Nat) : D → Bool
  | .tup xs => decide (xs.length = w) && xs.all (belowD t)
  | _ => false
theorem line_not {v : D} (h : isI .tup v = false) (w t : Nat) : lineok w t v = false := by
  cases v <;> first | rfl | simp [isI] at h
theorem one_len (a b : Nat) : Py.one (.int (a : Int)) (nD b) = .ok (.bl (!decide (a = b))) := by
  unfold nD
  rw [one_ii]
  by_cases e : a = b
  · simp [e]
  · have e2 : ¬ (a : Int) = (b : Int) := by omega
    simp [e, e2]
theorem line_any {v : D} {w t : Nat} (hv : LnV 1000 v) : m_is_line [v, nD w, nD t] = .ok (.bl (lineok w t v)) := by
  have e0 := isi_any (ts := [.tup]) hv.top rfl
  simp only [List.any_cons, List.any_nil, Bool.or_false] at e0
  unfold m_is_line
  rw [fn3]
  unfold b_is_line
  cases hi : isI .tup v with
  | false =>
    rw [hi] at e0
    rw [line_not hi]
    generalize nD w = W at *
    generalize nD t = T at *
    simp [var, e0]
  | true =>
    obtain ⟨xs, rfl⟩ := isI_tup hi
    obtain ⟨hg, hl⟩ := hv.mem xs rfl
    rw [hi] at e0
    have h1 : blen (.tup xs) = .ok (.int (xs.length : Int)) := rfl
    have h2 := one_len xs.length w
    have hc : ∀ a, lcE (iseq (var 0)) [3] (gnm 3) yes (call m_is_below (argC (var 3) (argC (var 2) argN))) [some (.tup xs), some (nD w), some (nD t), a] = .ok (.lst (xs.map fun x => .bl (belowD t x))) := fun a => by
      refine lc_mapI (ys := xs) (k := fun x => x) (by simp [var]) (le_sz hl) fun x hx => ?_
      have q := below_any (hg x hx) t
      generalize belowD t x = Bw at *
      generalize nD t = T at *
      generalize nD w = N at *
      generalize D.tup xs = X at *
      exact ⟨_, rfl, by simp only [wipe]; simp [var, q]⟩
    have hb : ball (.lst (xs.map fun x => D.bl (belowD t x))) = .ok (.bl (xs.all (belowD t))) := by
      have := ball_bools (xs.map (belowD t))
      rw [List.map_map] at this
      refine this.trans ?_
      rw [List.all_map]
      rfl
    have hq : lineok w t (.tup xs) = (decide (xs.length = w) && xs.all (belowD t)) := rfl
    rw [hq]
    cases he : decide (xs.length = w) with
    | true =>
      rw [he] at h2
      generalize D.lst (xs.map fun x => D.bl (belowD t x)) = Z at *
      generalize xs.all (belowD t) = J at *
      generalize (xs.length : Int) = N at *
      generalize D.tup xs = X at *
      generalize nD t = T at *
      generalize nD w = W at *
      simp [var, e0, h1, h2, hc, hb]
    | false =>
      rw [he] at h2
      generalize xs.all (belowD t) = J at *
      generalize (xs.length : Int) = N at *
      generalize D.tup xs = X at *
      generalize nD t = T at *
      generalize nD w = W at *
      simp [var, e0, h1, h2]
/-! ### tables of any kind -/
def mems : D → Option (List D)
  | .lst xs => some xs
  | .tup xs => some xs
  | _ => none
structure TbV (v : D) : Prop where
  top : gd v = true
  mem : ∀ xs, mems v = some xs → xs.length ≤ 1000 ∧ ∀ x ∈ xs, LnV 1000 x
theorem seq_any {v : D} (h : gd v = true) : oisi CS [.lst, .tup] v = .ok (.bl (mems v).isSome) := by
  have e := isi_any (ts := [.lst, .tup]) h rfl
  rw [e]
  cases v <;> rfl
theorem as_tuple_any {v : D} (h : gd v = true) : m_as_tuple [v] = .ok (match mems v with | some xs => .tup xs | none => .non) := by
  have e := seq_any h
  unfold m_as_tuple
  rw [fn1]
  unfold b_as_tuple
  cases hm : mems v with
  | none =>
    rw [hm] at e
    simp [var, e]
  | some xs =>
    rw [hm] at e
    have e2 : btuple v = .ok (.tup xs) := by
      cases v <;> simp [mems] at hm <;> subst hm <;> rfl
    simp [var, e, e2]
theorem mems_len {v : D} {xs : List D} (h : mems v = some xs) : blen v = .ok (.int (xs.length : Int)) := by
  cases v <;> simp [mems] at h <;> subst h <;> rfl
theorem mems_at {v : D} {xs : List D} (h : mems v = some xs) {k : Nat} (hk : k < xs.length) : oidx v (.int (k : Int)) = .ok (xs.getD k .non) := by
  cases v <;> simp [mems] at h <;> subst h
  · exact oidx_t (by simp [hk])
  · exact oidx_l (by simp [hk])
end Py.U
namespace Py.U
open PySem
def okAt (w t : Nat) (xs : List D) (i : Nat) : Bool := lineok w t (xs.getD i .non)
theorem getD_mem {xs : List D} {i : Nat} (h : i < xs.length) : xs.getD i .non ∈ xs := by
  rw [List.getD_eq_getElem?_getD, List.getElem?_eq_getElem h]
  exact List.getElem_mem h
def fwI : SM := Py.ite (notT (tst (call m_law_in_range (argC (var 4) (argC (cst (.int 0)) (argC (bin osub (var 2) (cst (.int 1))) argN)))))) (ret (var 3)) skip
def fwB : SM := (seq (Py.ite (orT (notT (tst (un (oisi CS [.tup]) (bin oidx (var 0) (var 3))))) (tst (bin Py.one (un blen (bin oidx (var 0) (var 3))) (var 1)))) (ret (var 3)) skip)
  (for_ (iseq (bin oidx (var 0) (var 3))) (gnm 4) fwI))
theorem fw_in {t : Nat} {zs : List D} (hz : ∀ z ∈ zs, gd z = true) (a b : Option D) (K : D) (o : Option D) :
    (zs.all (belowD t) = false → forL (forB (gnm 4) fwI) zs [a, b, some (nD t), some K, o] = .ok (.ret K)) ∧ (zs.all (belowD t) = true → ∃ o', forL (forB (gnm 4) fwI) zs [a, b, some (nD t), some K, o] = .ok (.next [a, b, some (nD t), some K, o'])) := by
  have step : ∀ z ∈ zs, ∀ o, forB (gnm 4) fwI z [a, b, some (nD t), some K, o] = if (!belowD t z) then .ok (.ret K) else .ok (.next [a, b, some (nD t), some K, some z]) := fun z h o => by
    have q := range_any (hz z h) t
    unfold nD
    generalize (t : Int) = T at *
    cases hb : belowD t z with
    | true =>
      rw [hb] at q
      simp [fwI, var, q]
    | false =>
      rw [hb] at q
      simp [fwI, var, q]
  obtain ⟨q1, q2⟩ := forL_find (b := forB (gnm 4) fwI) (p := fun z => !belowD t z) (d := K) (i := 4) (xs := zs) (e := [a, b, some (nD t), some K, o]) (fun z h o => step z h _) (fun z h => step z h _)
  refine ⟨fun h => q1 ?_, fun h => ?_⟩
  · rw [← List.not_all_eq_any_not, h]
    rfl
  · obtain ⟨e, h1, h2⟩ := q2 (by rw [← List.not_all_eq_any_not, h]; rfl)
    rcases h2 with rfl | ⟨x, rfl⟩
    · exact ⟨_, h1⟩
    · exact ⟨_, h1⟩
theorem range_of (n : Nat) : (List.range n).map (fun i => D.int ((i : Nat) : Int)) = (List.range' 0 n).map fun i => D.int ((i : Nat) : Int) := by rw [List.range_eq_range']
theorem fw_ok {v : D} {xs : List D} {w t : Nat} (hm : mems v = some xs) (hz : xs.length ≤ 1000) (hx : ∀ x ∈ xs, LnV 1000 x) :
    m_law_first_wrong [v, nD w, nD t] = .ok (match firstF (okAt w t xs) 0 xs.length with | some j => nD j | none => .int (-1)) := by
  obtain ⟨q1, q2⟩ := forL_first (b := forB (gnm 3) fwB) (I := fun e => ∃ o3 o4, e = [some v, some (nD w), some (nD t), o3, o4]) (p := okAt w t xs) (R := fun j => .ok (.ret (nD j))) (v := fun i => .int ((i : Nat) : Int)) (fun j => .inl ⟨_, rfl⟩) xs.length 0 [some v, some (nD w), some (nD t), none, none] ⟨_, _, rfl⟩ (by
    rintro i e _ hi ⟨o3, o4, rfl⟩
    have hi2 : i < xs.length := by omega
    have ha := mems_at hm hi2
    have hl := hx _ (getD_mem hi2)
    unfold okAt
    generalize xs.getD i .non = x at *
    have e0 := isi_any (ts := [.tup]) hl.top rfl
    simp only [List.any_cons, List.any_nil, Bool.or_false] at e0
    cases hi : isI .tup x with
    | false =>
      rw [hi] at e0
      rw [line_not hi]
      refine ⟨fun h => (by cases h), fun _ => ?_⟩
      unfold nD
      generalize ((i : Nat) : Int) = z at *
      generalize ((w : Nat) : Int) = W at *
      generalize ((t : Nat) : Int) = T at *
      simp [fwB, var, ha, e0]
    | true =>
      obtain ⟨zs, rfl⟩ := isI_tup hi
      obtain ⟨hg, hl2⟩ := hl.mem zs rfl
      rw [hi] at e0
      have h1 : blen (.tup zs) = .ok (.int (zs.length : Int)) := rfl
      have h2 := one_len zs.length w
      obtain ⟨h3, h4⟩ := fw_in (t := t) hg (some v) (some (nD w)) (nD i) o4
      have hq : lineok w t (.tup zs) = (decide (zs.length = w) && zs.all (belowD t)) := rfl
      have hs : iseq (bin oidx (var 0) (var 3)) [some v, some (nD w), some (nD t), some (nD i), o4] = .ok zs := by
        unfold nD
        rw [iseq_eq]
        simp [var, ha]
      rw [hq]
      change oidx v (nD i) = _ at ha
      show (_ → ∃ e', forB (gnm 3) fwB (nD i) _ = _ ∧ _) ∧ (_ → forB (gnm 3) fwB (nD i) _ = _)
      cases he : decide (zs.length = w) with
      | true =>
        rw [he] at h2
        cases hb : zs.all (belowD t) with
        | true =>
          obtain ⟨o', h4⟩ := h4 hb
          refine ⟨fun _ => ⟨[some v, some (nD w), some (nD t), some (nD i), o'], ?_, _, _, rfl⟩, fun h => by cases h⟩
          generalize (zs.length : Int) = N at *
          generalize nD i = Z at *
          generalize nD w = W at *
          generalize nD t = T at *
          unfold fwB
          rw [forB_eq, gnm_eq, lift_some, bind_ok]
          refine (chk_pass ?_).trans ?_
          · simp [var, ha, e0, h1, h2]
          · rw [for_eq]
            show (iseq (bin oidx (var 0) (var 3)) [some v, some W, some T, some Z, o4] >>= fun xs => forL (forB (gnm 4) fwI) xs [some v, some W, some T, some Z, o4]) = _
            rw [hs, bind_ok]
            exact h4
        | false =>
          have h3 := h3 hb
          refine ⟨fun h => (by cases h), fun _ => ?_⟩
          generalize (zs.length : Int) = N at *
          generalize nD i = Z at *
          generalize nD w = W at *
          generalize nD t = T at *
          unfold fwB
          rw [forB_eq, gnm_eq, lift_some, bind_ok]
          refine (chk_pass ?_).trans ?_
          · simp [var, ha, e0, h1, h2]
          · rw [for_eq]
            show (iseq (bin oidx (var 0) (var 3)) [some v, some W, some T, some Z, o4] >>= fun xs => forL (forB (gnm 4) fwI) xs [some v, some W, some T, some Z, o4]) = _
            rw [hs, bind_ok]
            exact h3
      | false =>
        rw [he] at h2
        refine ⟨fun h => (by cases h), fun _ => ?_⟩
        generalize (zs.length : Int) = N at *
        generalize nD i = Z at *
        generalize nD w = W at *
        generalize nD t = T at *
        simp [fwB, var, ha, e0, h1, h2])
  have hr : irng1 (un blen (var 0)) [some v, some (nD w), some (nD t), none, none] = .ok ((List.range' 0 xs.length).map fun i => D.int ((i : Nat) : Int)) := by
    rw [← range_of]
    exact irng1_nat (by simp [var, mems_len hm]) (rng_lt hz)
  unfold m_law_first_wrong
  rw [fn3]
  show done (seq (for_ (irng1 (un blen (var 0))) (gnm 3) fwB) (ret (un oneg (cst (.int 1)))) [some v, some (nD w), some (nD t), none, none]) = _
  cases hf : firstF (okAt w t xs) 0 xs.length with
  | some j =>
    have q := q1 j hf
    rw [seq_eq, for_eq, hr, bind_ok, q]
    rfl
  | none =>
    obtain ⟨e', q, _⟩ := q2 hf
    rw [seq_eq, for_eq, hr, bind_ok, q]
    rfl
end Py.U
namespace Py.U
open PySem
theorem rais_2 {c f g : String} {m1 m2 : EM} {e : Env} {d1 d2 : D} (h1 : m1 e = .ok d1) (h2 : m2 e = .ok d2) : rais c [f, g] (argC m1 (argC m2 argN)) e = .exc c [(g, d2), (f, d1)] := by
  unfold rais
  simp [h1, h2]
def fM (p : String) (k : Nat) : List (String × D) := [("place", nD k), ("part", .str p)]
def eM (p : String) (k : Nat) : Res D := .exc "InvalidMachine" (fM p k)
theorem enum_of : ∀ (xs : List D) (k : Nat), enumL k xs = (List.range' k xs.length).map fun i => .tup [.int ((i : Nat) : Int), xs.getD (i - k) .non]
  | [], k => rfl
  | x :: xs, k => by
    rw [List.length_cons, List.range'_succ, List.map_cons, enumL, enum_of xs (k + 1), Nat.sub_self]
    congr 1
    apply List.map_congr_left
    intro i hi
    have h1 : k + 1 ≤ i := (List.mem_range'_1.mp hi).1
    have e : i - k = (i - (k + 1)) + 1 := by omega
    rw [e]
    rfl
theorem enum0 (xs : List D) : enumL 0 xs = (List.range' 0 xs.length).map fun i => .tup [.int ((i : Nat) : Int), xs.getD i .non] := enum_of xs 0
def nxR (w : Nat) (x : D) : Res D := match mems x with
  | none => eM "nexts" 0
  | some xs => if xs.isEmpty then eM "nexts" 0 else match firstF (okAt w xs.length xs) 0 xs.length with
    | some j => eM "nexts" j
    | none => .ok (.tup xs)
def otR (w s : Nat) (y : D) : Res D := match mems y with
  | none => eM "outs" 0
  | some ys => match firstF (okAt w 2 ys) 0 (min ys.length s) with
    | some j => eM "outs" j
    | none => if ys.length = s then .ok (.tup ys) else eM "outs" (min ys.length s)
def nB : SM := Py.ite (notT (tst (call m_is_line (argC (var 4) (argC (var 1) (argC (un blen (var 2)) argN)))))) (rais "InvalidMachine" ["part", "place"] (argC (cst (.str "nexts")) (argC (var 3) argN))) skip
theorem nexts_any {x : D} {w : Nat} (hv : TbV x) : m_right_nexts [x, nD w] = nxR w x := by
  have h1 := as_tuple_any hv.top
  have r0 : ∀ a b c d e, rais "InvalidMachine" ["part", "place"] (argC (cst (.str "nexts")) (argC (cst (.int 0)) argN)) [a, b, c, d, e] = .exc "InvalidMachine" (fM "nexts" 0) := fun a b c d e => rais_2 rfl rfl
  unfold nxR
  unfold m_right_nexts
  rw [fn2]
  show done ((seq (asg (gnm 2) (call m_as_tuple (argC (var 0) argN)))
    (seq (Py.ite (notT (tst (var 2))) (rais "InvalidMachine" ["part", "place"] (argC (cst (.str "nexts")) (argC (cst (.int 0)) argN))) skip)
    (seq (for_ (ienum (var 2)) (gtup [(gnm 3), (gnm 4)]) nB) (ret (var 2))))) [some x, some (nD w), none, none, none]) = _
  cases hm : mems x with
  | none =>
    rw [hm] at h1
    dsimp only at h1 ⊢
    have h2 : truthy .non = .ok false := rfl
    unfold eM
    generalize nD w = W at *
    simp [var, h1, h2, r0]
  | some xs =>
    rw [hm] at h1
    dsimp only at h1 ⊢
    have h2 : truthy (.tup xs) = .ok (!xs.isEmpty) := rfl
    cases he : xs.isEmpty with
    | true =>
      rw [he] at h2
      rw [if_pos rfl]
      unfold eM
      generalize D.tup xs = X at *
      generalize nD w = W at *
      simp [var, h1, h2, r0]
    | false =>
      rw [he] at h2
      rw [if_neg (by simp)]
      obtain ⟨hl, hx⟩ := hv.mem xs hm
      have h3 : blen (.tup xs) = .ok (nD xs.length) := rfl
      obtain ⟨q1, q2⟩ := forL_first (b := forB (gtup [(gnm 3), (gnm 4)]) nB) (I := fun e => ∃ o3 o4, e = [some x, some (nD w), some (.tup xs), o3, o4]) (p := okAt w xs.length xs) (R := fun j => .exc "InvalidMachine" (fM "nexts" j)) (v := fun i => .tup [.int ((i : Nat) : Int), xs.getD i .non]) (fun j => .inr ⟨_, _, rfl⟩) xs.length 0 [some x, some (nD w), some (.tup xs), none, none] ⟨_, _, rfl⟩ (by
        rintro i e _ hi ⟨o3, o4, rfl⟩
        have hi2 : i < xs.length := by omega
        have q := line_any (w := w) (t := xs.length) (hx _ (getD_mem hi2))
        unfold okAt fM
        have hr : rais "InvalidMachine" ["part", "place"] (argC (cst (.str "nexts")) (argC (var 3) argN)) [some x, some (nD w), some (.tup xs), some (nD i), some (xs.getD i .non)] = .exc "InvalidMachine" [("place", nD i), ("part", .str "nexts")] := rais_2 rfl rfl
        change (_ → ∃ e', forB _ nB (.tup [nD i, _]) _ = _ ∧ _) ∧ (_ → forB _ nB (.tup [nD i, _]) _ = _)
        generalize xs.getD i .non = y at *
        generalize nD xs.length = N at *
        generalize nD w = W at *
        generalize D.tup xs = X at *
        generalize nD i = I at *
        cases hb : lineok w xs.length y with
        | true =>
          rw [hb] at q
          exact ⟨fun _ => ⟨[some x, some W, some X, some I, some y], by simp [nB, var, gtup, gtupL, q, h3], _, _, rfl⟩, fun h => (by cases h)⟩
        | false =>
          rw [hb] at q
          exact ⟨fun h => (by cases h), fun _ => by simp [nB, var, gtup, gtupL, q, h3, hr]⟩)
      rw [← enum0] at q1 q2
      have q5 : ienum (var 2) [some x, some (nD w), some (.tup xs), none, none] = .ok (enumL 0 xs) := rfl
      cases hf : firstF (okAt w xs.length xs) 0 xs.length with
      | some j =>
        have q := q1 j hf
        unfold eM
        dsimp only
        generalize fM "nexts" j = FM at *
        generalize enumL 0 xs = E at *
        generalize D.tup xs = X at *
        generalize nD w = W at *
        simp [var, h1, h2, q5, q]
      | none =>
        obtain ⟨e', q, o3, o4, rfl⟩ := q2 hf
        dsimp only
        generalize enumL 0 xs = E at *
        generalize D.tup xs = X at *
        generalize nD w = W at *
        simp [var, h1, h2, q5, q]
def oB : SM := Py.ite (notT (tst (call m_is_line (argC (bin oidx (var 3) (var 5)) (argC (var 1) (argC (cst (.int 2)) argN)))))) (rais "InvalidMachine" ["part", "place"] (argC (cst (.str "outs")) (argC (var 5) argN))) skip
theorem min_nD (a b : Nat) : bmin2 (nD a) (nD b) = .ok (nD (min a b)) := by
  show Res.ok (D.int (if (b : Int) < (a : Int) then (b : Int) else (a : Int))) = Res.ok (D.int ((min a b : Nat) : Int))
  congr 2
  by_cases h : b < a
  · rw [if_pos (by omega), Nat.min_eq_right (by omega)]
  · rw [if_neg (by omega), Nat.min_eq_left (by omega)]
theorem outs_any {y : D} {w s : Nat} (hv : TbV y) : m_right_outs [y, nD w, nD s] = otR w s y := by
  have h1 := as_tuple_any hv.top
  have r0 : ∀ a b c d e f, rais "InvalidMachine" ["part", "place"] (argC (cst (.str "outs")) (argC (cst (.int 0)) argN)) [a, b, c, d, e, f] = .exc "InvalidMachine" (fM "outs" 0) := fun a b c d e f => rais_2 rfl rfl
  unfold otR
  unfold m_right_outs
  rw [fn3]
  show done ((seq (asg (gnm 3) (call m_as_tuple (argC (var 0) argN)))
    (seq (Py.ite (tst (un oisN (var 3))) (rais "InvalidMachine" ["part", "place"] (argC (cst (.str "outs")) (argC (cst (.int 0)) argN))) skip)
    (seq (asg (gnm 4) (bin bmin2 (un blen (var 3)) (var 2)))
    (seq (for_ (irng1 (var 4)) (gnm 5) oB)
    (seq (Py.ite (tst (bin Py.one (un blen (var 3)) (var 2))) (rais "InvalidMachine" ["part", "place"] (argC (cst (.str "outs")) (argC (var 4) argN))) skip)
    (ret (var 3))))))) [some y, some (nD w), some (nD s), none, none, none]) = _
  cases hm : mems y with
  | none =>
    rw [hm] at h1
    dsimp only at h1 ⊢
    have h2 : oisN .non = .ok (.bl true) := rfl
    unfold eM
    generalize nD w = W at *
    generalize nD s = S at *
    simp [var, h1, h2, r0]
  | some ys =>
    rw [hm] at h1
    dsimp only at h1 ⊢
    have h2 : oisN (.tup ys) = .ok (.bl false) := rfl
    obtain ⟨hl, hx⟩ := hv.mem ys hm
    have h3 : blen (.tup ys) = .ok (nD ys.length) := rfl
    have h4 := min_nD ys.length s
    have h5 : Py.one (nD ys.length) (nD s) = .ok (.bl (!decide (ys.length = s))) := one_len ys.length s
    have hml : min ys.length s ≤ ys.length := Nat.min_le_left _ _
    obtain ⟨q1, q2⟩ := forL_first (b := forB (gnm 5) oB) (I := fun e => ∃ o5, e = [some y, some (nD w), some (nD s), some (.tup ys), some (nD (min ys.length s)), o5]) (p := okAt w 2 ys) (R := fun j => .exc "InvalidMachine" (fM "outs" j)) (v := fun i => .int ((i : Nat) : Int)) (fun j => .inr ⟨_, _, rfl⟩) (min ys.length s) 0 [some y, some (nD w), some (nD s), some (.tup ys), some (nD (min ys.length s)), none] ⟨_, rfl⟩ (by
      rintro i e _ hi ⟨o5, rfl⟩
      have hi2 : i < ys.length := by omega
      have q := line_any (w := w) (t := 2) (hx _ (getD_mem hi2))
      have ha : oidx (.tup ys) (nD i) = .ok (ys.getD i .non) := mems_at (v := .tup ys) rfl hi2
      unfold okAt fM
      have hr : rais "InvalidMachine" ["part", "place"] (argC (cst (.str "outs")) (argC (var 5) argN)) [some y, some (nD w), some (nD s), some (.tup ys), some (nD (min ys.length s)), some (nD i)] = .exc "InvalidMachine" [("place", nD i), ("part", .str "outs")] := rais_2 rfl rfl
      change (_ → ∃ e', forB _ oB (nD i) _ = _ ∧ _) ∧ (_ → forB _ oB (nD i) _ = _)
      change m_is_line [_, _, .int 2] = _ at q
      generalize ys.getD i .non = z at *
      generalize nD (min ys.length s) = N at *
      generalize nD w = W at *
      generalize nD s = S at *
      generalize D.tup ys = Y at *
      generalize nD i = I at *
      cases hb : lineok w 2 z with
      | true =>
        rw [hb] at q
        exact ⟨fun _ => ⟨[some y, some W, some S, some Y, some N, some I], by simp [oB, var, q, ha], _, rfl⟩, fun h => (by cases h)⟩
      | false =>
        rw [hb] at q
        exact ⟨fun h => (by cases h), fun _ => by simp [oB, var, q, ha, hr]⟩)
    rw [← range_of] at q1 q2
    have q5 : irng1 (var 4) [some y, some (nD w), some (nD s), some (.tup ys), some (nD (min ys.length s)), none] = .ok ((List.range (min ys.length s)).map fun i => D.int ((i : Nat) : Int)) := irng1_nat (by simp [var, nD]) (rng_lt (by omega))
    have r1 : ∀ a b c d e f, rais "InvalidMachine" ["part", "place"] (argC (cst (.str "outs")) (argC (var 4) argN)) [a, b, c, d, some (nD e), f] = .exc "InvalidMachine" (fM "outs" e) := fun a b c d e f => rais_2 rfl rfl
    cases hf : firstF (okAt w 2 ys) 0 (min ys.length s) with
    | some j =>
      have q := q1 j hf
      unfold eM
      dsimp only
      clear q1 q2 hf r1
      generalize fM "outs" j = FM at *
      generalize ((List.range (min ys.length s)).map fun i => D.int ((i : Nat) : Int)) = E at *
      generalize nD (min ys.length s) = N at *
      generalize D.tup ys = Y at *
      generalize nD w = W at *
      generalize nD s = S at *
      simp [var, h1, h2, h3, h4, q5, q]
    | none =>
      obtain ⟨e', q, o5, rfl⟩ := q2 hf
      dsimp only
      unfold eM
      have r1' := fun a b c d f => r1 a b c d (min ys.length s) f
      clear q1 q2 hf r1
      generalize fM "outs" (min ys.length s) = FM at *
      generalize ((List.range (min ys.length s)).map fun i => D.int ((i : Nat) : Int)) = E at *
      generalize nD (min ys.length s) = N at *
      by_cases he : ys.length = s
      · rw [if_pos he]
        rw [decide_eq_true he] at h5
        generalize nD ys.length = L at *
        generalize D.tup ys = Y at *
        generalize nD w = W at *
        generalize nD s = S at *
        simp [var, h1, h2, h3, h4, h5, q5, q]
      · rw [if_neg he]
        rw [decide_eq_false he] at h5
        generalize nD ys.length = L at *
        generalize D.tup ys = Y at *
        generalize nD w = W at *
        generalize nD s = S at *
        simp [var, h1, h2, h3, h4, h5, q5, q, r1']
end Py.U
namespace Py.U
open PySem
def fault (n : Nat) (x y : D) : Option (String × Nat) := match mems x with
  | none => some ("nexts", 0)
  | some xs => if xs.isEmpty then some ("nexts", 0) else match firstF (okAt (2 ^ n) xs.length xs) 0 xs.length with
    | some j => some ("nexts", j)
    | none => match mems y with
      | none => some ("outs", 0)
      | some ys => match firstF (okAt (2 ^ n) 2 ys) 0 (min ys.length xs.length) with
        | some j => some ("outs", j)
        | none => if ys.length = xs.length then none else some ("outs", min ys.length xs.length)
def ftD : Option (String × Nat) → D
  | none => .non
  | some (p, k) => .tup [.str p, nD k]
theorem fault_in {i x y : D} (hi : gd i = true) (h : inD i = false) : m_law_fault [i, x, y] = .ok (.tup [.str "inputs", nD 0]) := by
  have e := inrange_any hi
  rw [h] at e
  unfold m_law_fault
  rw [fn3]
  unfold b__law_fault nD
  simp [var, e]
theorem inD_nD {n : Nat} (h1 : 1 ≤ n) (h3 : n ≤ 3) : inD (nD n) = true := by
  show (decide (1 ≤ (n : Int)) && decide ((n : Int) ≤ 3)) = true
  rw [decide_eq_true (by omega), decide_eq_true (by omega)]
  rfl
theorem fault_ok {n : Nat} {x y : D} (h1 : 1 ≤ n) (h3 : n ≤ 3) (hx : TbV x) (hy : TbV y) : m_law_fault [nD n, x, y] = .ok (ftD (fault n x y)) := by
  have e := inrange_any (d := nD n) rfl
  rw [inD_nD h1 h3] at e
  have s1 := seq_any hx.top
  have s2 := seq_any hy.top
  have sh := shl_nD (n := n) (by omega)
  unfold m_law_fault
  rw [fn3]
  unfold b__law_fault fault
  cases hm : mems x with
  | none =>
    rw [hm] at s1
    dsimp only
    unfold ftD nD at *
    generalize (n : Int) = N at *
    simp [var, e, s1]
  | some xs =>
    rw [hm] at s1
    have l1 := mems_len hm
    dsimp only
    cases he : xs.isEmpty with
    | true =>
      have l0 : (xs.length : Int) = 0 := by
        have : xs = [] := by simpa using he
        rw [this]
        rfl
      rw [l0] at l1
      rw [if_pos rfl]
      unfold ftD nD at *
      generalize (n : Int) = N at *
      simp [var, e, s1, l1]
    | false =>
      have l0 : oeq (nD xs.length) (.int 0) = .ok (.bl false) := by
        have : xs.length ≠ 0 := by
          intro h
          have : xs = [] := List.eq_nil_of_length_eq_zero h
          rw [this] at he
          cases he
        unfold nD
        rw [oeq_ii]
        congr 2
        simp [this]
      rw [if_neg (by simp)]
      obtain ⟨hl, hxl⟩ := hx.mem xs hm
      have f1 := fw_ok (w := 2 ^ n) (t := xs.length) hm hl hxl
      change blen x = .ok (nD xs.length) at l1
      have ge : ∀ j, oge (nD j) (.int 0) = .ok (.bl true) := fun j => by
        unfold nD
        rw [oge_ii, decide_eq_true (by omega)]
      have ge1 : oge (.int (-1)) (.int 0) = .ok (.bl false) := rfl
      cases hf : firstF (okAt (2 ^ n) xs.length xs) 0 xs.length with
      | some j =>
        rw [hf] at f1
        have g := ge j
        dsimp only at f1 ⊢
        unfold ftD
        dsimp only
        generalize nD j = J at *
        generalize nD xs.length = L at *
        generalize nD (2 ^ n) = T at *
        generalize nD n = N at *
        simp [var, e, s1, l1, l0, sh, f1, g]
      | none =>
        rw [hf] at f1
        dsimp only at f1 ⊢
        cases hm2 : mems y with
        | none =>
          rw [hm2] at s2
          unfold ftD
          dsimp only
          rw [show nD 0 = D.int 0 from rfl]
          generalize nD xs.length = L at *
          generalize nD (2 ^ n) = T at *
          generalize nD n = N at *
          simp [var, e, s1, l1, l0, sh, f1, ge1, s2]
        | some ys =>
          rw [hm2] at s2
          have l2 := mems_len hm2
          change blen y = .ok (nD ys.length) at l2
          obtain ⟨hl2, hyl⟩ := hy.mem ys hm2
          have f2 := fw_ok (w := 2 ^ n) (t := 2) hm2 hl2 hyl
          have mn := min_nD xs.length ys.length
          have ne : Py.one (nD xs.length) (nD ys.length) = .ok (.bl (!decide (xs.length = ys.length))) := one_len _ _
          have lt : ∀ j, olt (nD j) (.int 0) = .ok (.bl false) := fun j => by
            unfold nD
            rw [olt_ii, decide_eq_false (by omega)]
          have lt1 : olt (.int (-1)) (.int 0) = .ok (.bl true) := rfl
          have gt : ∀ j m, ogt (nD j) (nD m) = .ok (.bl (decide (m < j))) := fun j m => by
            unfold nD
            rw [ogt_ii]
            congr 2
            exact decide_eq_decide.mpr (by omega)
          have hc := firstF_cut (p := okAt (2 ^ n) 2 ys) (min ys.length xs.length) (ys.length - min ys.length xs.length) 0
          rw [show min ys.length xs.length + (ys.length - min ys.length xs.length) = ys.length by omega, Nat.zero_add] at hc
          dsimp only
          rw [hc]
          rw [Nat.min_comm] at mn
          change m_law_first_wrong [_, _, .int 2] = _ at f2
          cases hf2 : firstF (okAt (2 ^ n) 2 ys) 0 ys.length with
          | none =>
            rw [hf2] at f2
            dsimp only at f2 ⊢
            by_cases hq : ys.length = xs.length
            · rw [if_pos hq]
              rw [decide_eq_true hq.symm] at ne
              unfold ftD
              dsimp only
              generalize nD (min ys.length xs.length) = M at *
              generalize nD xs.length = L at *
              generalize nD ys.length = L2 at *
              generalize nD (2 ^ n) = T at *
              generalize nD n = N at *
              simp [var, e, s1, l1, l0, sh, f1, ge1, s2, l2, f2, mn, ne]
            · rw [if_neg hq]
              rw [decide_eq_false (fun h => hq h.symm)] at ne
              have g := ge (min ys.length xs.length)
              unfold ftD
              dsimp only
              generalize nD (min ys.length xs.length) = M at *
              generalize nD xs.length = L at *
              generalize nD ys.length = L2 at *
              generalize nD (2 ^ n) = T at *
              generalize nD n = N at *
              simp [var, e, s1, l1, l0, sh, f1, ge1, s2, l2, f2, mn, ne, lt1, g]
          | some j =>
            rw [hf2] at f2
            dsimp only at f2 ⊢
            have hj := firstF_lt hf2
            have g := ge j
            have k1 := lt j
            have k2 := gt j (min ys.length xs.length)
            by_cases hq : j < min ys.length xs.length
            · rw [if_pos hq]
              dsimp only
              rw [decide_eq_false (by omega)] at k2
              unfold ftD
              dsimp only
              generalize nD (min ys.length xs.length) = M at *
              generalize nD j = J at *
              generalize (!decide (xs.length = ys.length)) = B at *
              generalize nD xs.length = L at *
              generalize nD ys.length = L2 at *
              generalize nD (2 ^ n) = T at *
              generalize nD n = N at *
              cases B <;> simp [var, e, s1, l1, l0, sh, f1, ge1, s2, l2, f2, mn, ne, lt1, g, k1, k2]
            · rw [if_neg hq]
              dsimp only
              have hd : ¬ ys.length = xs.length := by
                intro h
                rw [h, Nat.min_self] at hq
                omega
              rw [if_neg hd]
              rw [decide_eq_false (fun h => hd h.symm)] at ne
              by_cases hz : min ys.length xs.length < j
              · rw [decide_eq_true hz] at k2
                have g2 := ge (min ys.length xs.length)
                unfold ftD
                dsimp only
                generalize nD (min ys.length xs.length) = M at *
                generalize nD j = J at *
                generalize nD xs.length = L at *
                generalize nD ys.length = L2 at *
                generalize nD (2 ^ n) = T at *
                generalize nD n = N at *
                simp [var, e, s1, l1, l0, sh, f1, ge1, s2, l2, f2, mn, ne, lt1, g, k1, k2, g2]
              · have hz2 : min ys.length xs.length = j := by omega
                rw [decide_eq_false hz] at k2
                rw [hz2] at mn k2 ⊢
                unfold ftD
                dsimp only
                generalize nD j = J at *
                generalize nD xs.length = L at *
                generalize nD ys.length = L2 at *
                generalize nD (2 ^ n) = T at *
                generalize nD n = N at *
                simp [var, e, s1, l1, l0, sh, f1, ge1, s2, l2, f2, mn, ne, lt1, g, k1, k2]
/-! ### the machine made -/
def machV (n : Nat) (xs ys : List D) : D := .ins "Machine" [("inputs", nD n), ("nexts", .tup xs), ("outs", .tup ys)]
theorem made_eq {p n : Nat} {cls : String} {body : SM} {ds : List D} {c : String} {fs : List (String × D)} {r : Env} (hl : ds.length + 1 = p) (h : body ((some (.ins cls []) :: ds.map some) ++ List.replicate (n - p) none) = .ok (.next (some (.ins c fs) :: r))) : made p n cls body ds = .ok (.ins c fs) := by
  unfold made
  rw [if_pos hl, h]
theorem made_exc {p n : Nat} {cls : String} {body : SM} {ds : List D} {c : String} {fs : List (String × D)} (hl : ds.length + 1 = p) (h : body ((some (.ins cls []) :: ds.map some) ++ List.replicate (n - p) none) = .exc c fs) : made p n cls body ds = .exc c fs := by
  unfold made
  rw [if_pos hl, h]
theorem mach_in {i x y : D} (hi : gd i = true) (h : inD i = false) : m_Machine [i, x, y] = eM "inputs" 0 := by
  have e := inputs_any hi
  rw [h] at e
  have r0 : ∀ a b c d e, rais "InvalidMachine" ["part", "place"] (argC (cst (.str "inputs")) (argC (cst (.int 0)) argN)) [a, b, c, d, e] = .exc "InvalidMachine" (fM "inputs" 0) := fun a b c d e => rais_2 rfl rfl
  have key : b_Machine_init [some (.ins "Machine" []), some i, some x, some y, none] = .exc "InvalidMachine" (fM "inputs" 0) := by
    unfold b_Machine_init
    simp [var, e, r0]
  exact made_exc rfl key
theorem mach_any {n : Nat} {x y : D} (h1 : 1 ≤ n) (h3 : n ≤ 3) (hx : TbV x) (hy : TbV y) : m_Machine [nD n, x, y] = match fault n x y with
    | some (p, k) => eM p k
    | none => match mems x, mems y with
      | some xs, some ys => .ok (machV n xs ys)
      | _, _ => .stuck := by
  have q1 := inputs_any (d := nD n) rfl
  rw [inD_nD h1 h3] at q1
  have q2 := shl_nD (n := n) (by omega)
  have q3 := nexts_any (w := 2 ^ n) hx
  unfold nxR at q3
  have bad1 : ∀ p k, m_right_nexts [x, nD (2 ^ n)] = eM p k → m_Machine [nD n, x, y] = eM p k := fun p k q => by
    unfold eM at q ⊢
    generalize fM p k = F at *
    have key : b_Machine_init [some (.ins "Machine" []), some (nD n), some x, some y, none] = .exc "InvalidMachine" F := by
      unfold b_Machine_init
      generalize nD (2 ^ n) = P at *
      generalize nD n = N at *
      simp [var, q1, q2, q, setF, putF]
    exact made_exc rfl key
  unfold fault
  cases hm : mems x with
  | none =>
    rw [hm] at q3
    exact bad1 _ _ q3
  | some xs =>
    rw [hm] at q3
    dsimp only at q3 ⊢
    cases he : xs.isEmpty with
    | true =>
      rw [he, if_pos rfl] at q3
      rw [if_pos rfl]
      exact bad1 _ _ q3
    | false =>
      rw [he, if_neg (by simp)] at q3
      rw [if_neg (by simp)]
      cases hf : firstF (okAt (2 ^ n) xs.length xs) 0 xs.length with
      | some j =>
        rw [hf] at q3
        exact bad1 _ _ q3
      | none =>
        rw [hf] at q3
        dsimp only at q3 ⊢
        have q4 := outs_any (w := 2 ^ n) (s := xs.length) hy
        unfold otR at q4
        have l5 : blen (.tup xs) = .ok (nD xs.length) := rfl
        have q6 : oattr ["Machine"] "nexts" (.ins "Machine" [("inputs", nD n), ("nexts", .tup xs)]) = .ok (.tup xs) := rfl
        have bad2 : ∀ p k, m_right_outs [y, nD (2 ^ n), nD xs.length] = eM p k → m_Machine [nD n, x, y] = eM p k := fun p k q => by
          unfold eM at q ⊢
          generalize fM p k = F at *
          have key : b_Machine_init [some (.ins "Machine" []), some (nD n), some x, some y, none] = .exc "InvalidMachine" F := by
            unfold b_Machine_init
            generalize nD (2 ^ n) = P at *
            generalize nD n = N at *
            generalize nD xs.length = L at *
            generalize D.tup xs = X at *
            simp [var, q1, q2, q3, q6, l5, q, setF, putF]
          exact made_exc rfl key
        cases hm2 : mems y with
        | none =>
          rw [hm2] at q4
          exact bad2 _ _ q4
        | some ys =>
          rw [hm2] at q4
          dsimp only at q4 ⊢
          cases hf2 : firstF (okAt (2 ^ n) 2 ys) 0 (min ys.length xs.length) with
          | some j =>
            rw [hf2] at q4
            exact bad2 _ _ q4
          | none =>
            rw [hf2] at q4
            dsimp only at q4 ⊢
            by_cases hq : ys.length = xs.length
            · rw [if_pos hq] at q4 ⊢
              have key : b_Machine_init [some (.ins "Machine" []), some (nD n), some x, some y, none] = .ok (.next [some (machV n xs ys), some (nD n), some x, some y, some (nD (2 ^ n))]) := by
                unfold b_Machine_init machV
                generalize nD (2 ^ n) = P at *
                generalize nD n = N at *
                generalize nD xs.length = L at *
                generalize D.tup xs = X at *
                generalize D.tup ys = Y at *
                simp [var, q1, q2, q3, q4, q6, l5, setF, putF]
              exact made_eq rfl key
            · rw [if_neg hq] at q4 ⊢
              exact bad2 _ _ q4
end Py.U
namespace Py.U
open PySem
def AL : Nat → D → Prop
  | 0, _ => False
  | k + 1, d => match d with
    | .tup xs => xs.length ≤ 1000 ∧ ∀ x ∈ xs, AL k x
    | .lst xs => xs.length ≤ 1000 ∧ ∀ x ∈ xs, AL k x
    | .ins c fs => False
    | .dic _ => False
    | _ => True
theorem AL.gd {k : Nat} {d : D} (h : AL (k + 1) d) : gd d = true := by
  cases d with
  | ins c fs => exact (show False from h).elim
  | _ => rfl
def aL (f : List D → Res D) : SM := (for_ (irng1 (un blen (var 1))) (gnm 2) (Py.ite (notT (tst (call f (argC (bin oidx (var 0) (var 2)) (argC (bin oidx (var 1) (var 2)) argN))))) (ret (cst (.bl false))) skip))
theorem aL_ok {f : List D → Res D} {d : D} {xs : List D} (hd : d = .tup xs ∨ d = .lst xs) (hz : xs.length ≤ 1000) (h : ∀ x ∈ xs, f [x, x] = .ok (.bl true)) (o : Option D) : ∃ o', aL f [some d, some d, o] = .ok (.next [some d, some d, o']) := by
  have hl : blen d = .ok (.int (xs.length : Int)) := by
    rcases hd with rfl | rfl <;> simp
  have hi : ∀ k, (hk : k < xs.length) → oidx d (.int ((k : Nat) : Int)) = .ok xs[k] := fun k hk => by
    rcases hd with rfl | rfl
    · exact oidx_t (by simp [hk])
    · exact oidx_l (by simp [hk])
  clear hd
  obtain ⟨e', h1, o', h2⟩ := forR_inv (b := forB (gnm 2) (Py.ite (notT (tst (call f (argC (bin oidx (var 0) (var 2)) (argC (bin oidx (var 1) (var 2)) argN))))) (ret (cst (.bl false))) skip)) (n := xs.length) (e := [some d, some d, o])
    (fun _ e => ∃ o', e = [some d, some d, o']) ⟨o, rfl⟩ fun i e hi2 ⟨o1, he⟩ => by
      subst he
      have q := hi i hi2
      have q2 := h _ (List.getElem_mem hi2)
      generalize xs[i] = x at *
      generalize ((i : Nat) : Int) = I at *
      exact ⟨[some d, some d, some (.int I)], by simp [var, q, q2], _, rfl⟩
  subst h2
  refine ⟨o', ?_⟩
  unfold aL
  rw [for_eq, irng1_nat (n := xs.length) (by simp [var, hl]) (rng_lt hz), bind_ok]
  exact h1
def aB (f : List D → Res D) : SM := (seq (Py.ite (tst (un (oisi CS [(.cls "Machine")]) (var 1))) (ret (andE (un (oisi CS [(.cls "Machine")]) (var 0)) (andE (call f (argC (un (oattr ["Machine"] "nexts") (var 0)) (argC (un (oattr ["Machine"] "nexts") (var 1)) argN))) (call f (argC (un (oattr ["Machine"] "outs") (var 0)) (argC (un (oattr ["Machine"] "outs") (var 1)) argN)))))) skip)
  (seq (Py.ite (tst (un (oisi CS [.lst, .tup]) (var 1))) (seq (Py.ite (orT (notT (tst (un (oisi CS [.lst, .tup]) (var 0)))) (tst (bin Py.one (un (oisi CS [.lst]) (var 0)) (un (oisi CS [.lst]) (var 1))))) (ret (cst (.bl false))) skip)
  (seq (Py.ite (tst (bin Py.one (un blen (var 0)) (un blen (var 1)))) (ret (cst (.bl false))) skip)
  (seq (aL f)
  (ret (cst (.bl true)))))) skip)
  (seq (Py.ite (tst (un oisN (var 1))) (ret (un oisN (var 0))) skip)
  (seq (Py.ite (orT (tst (un (oisi CS [.bl]) (var 1))) (tst (un (oisi CS [.bl]) (var 0)))) (ret (andE (un (oisi CS [.bl]) (var 1)) (andE (un (oisi CS [.bl]) (var 0)) (bin oeq (var 0) (var 1))))) skip)
  (seq (Py.ite (tst (un (oisi CS [.str]) (var 1))) (ret (andE (un (oisi CS [.str]) (var 0)) (bin oeq (var 0) (var 1)))) skip)
  (ret (andE (un (oisi CS [.int]) (var 0)) (bin oeq (var 0) (var 1)))))))))
theorem alike_succ (k : Nat) : m_law_alike (k + 1) = fn 2 3 (aB (m_law_alike k)) := rfl
theorem alike_refl : ∀ (k : Nat) (d : D), AL k d → m_law_alike k [d, d] = .ok (.bl true)
  | 0, _, h => h.elim
  | k + 1, d, h => by
    have g := h.gd
    have e1 := isi_any (ts := [.lst, .tup]) g rfl
    have e2 := isi_any (ts := [.lst]) g rfl
    have e3 := isi_any (ts := [.cls "Machine"]) g rfl
    have e4 := isi_any (ts := [.bl]) g rfl
    have e5 := isi_any (ts := [.str]) g rfl
    have e6 := isi_any (ts := [.int]) g rfl
    rw [alike_succ, fn2]
    have seqs : ∀ xs, (d = .tup xs ∨ d = .lst xs) → xs.length ≤ 1000 → (∀ x ∈ xs, AL k x) → done (aB (m_law_alike k) (some d :: some d :: List.replicate (3 - 2) none)) = .ok (.bl true) := fun xs hd hz ha => by
      obtain ⟨o', q⟩ := aL_ok hd hz (fun x hx => alike_refl k x (ha x hx)) none
      have hl : blen d = .ok (.int (xs.length : Int)) := by
        rcases hd with rfl | rfl <;> simp
      have t1 : oisi CS [.lst, .tup] d = .ok (.bl true) := by
        rcases hd with rfl | rfl <;> exact e1
      have t0 : oisi CS [.cls "Machine"] d = .ok (.bl false) := by
        rcases hd with rfl | rfl <;> exact e3
      have t2 : ∃ b, oisi CS [.lst] d = .ok (.bl b) := ⟨_, e2⟩
      obtain ⟨b, t2⟩ := t2
      have t3 : Py.one (.bl b) (.bl b) = .ok (.bl false) := by cases b <;> rfl
      clear hd e1 e2 e3 e4 e5 e6 g h
      unfold aB
      simp [var, t0, t1, t2, t3, hl, q]
    cases d with
    | tup xs =>
      have h' : xs.length ≤ 1000 ∧ ∀ x ∈ xs, AL k x := h
      exact seqs xs (.inl rfl) h'.1 h'.2
    | lst xs =>
      have h' : xs.length ≤ 1000 ∧ ∀ x ∈ xs, AL k x := h
      exact seqs xs (.inr rfl) h'.1 h'.2
    | dic xs => exact (show False from h).elim
    | ins c fs => exact (show False from h).elim
    | non =>
      have n1 : oisN .non = .ok (.bl true) := rfl
      have n2 : oisi CS [.lst, .tup] .non = .ok (.bl false) := rfl
      have n3 : oisi CS [.cls "Machine"] .non = .ok (.bl false) := rfl
      unfold aB
      simp [var, n1, n2, n3]
    | bl b =>
      have n1 : oisN (.bl b) = .ok (.bl false) := rfl
      have n2 : oisi CS [.lst, .tup] (.bl b) = .ok (.bl false) := rfl
      have n3 : oisi CS [.cls "Machine"] (.bl b) = .ok (.bl false) := rfl
      have n4 : oisi CS [.bl] (.bl b) = .ok (.bl true) := rfl
      have n5 : oeq (.bl b) (.bl b) = .ok (.bl true) := by cases b <;> rfl
      unfold aB
      simp [var, n1, n2, n3, n4, n5]
    | int z =>
      have n1 : oisN (.int z) = .ok (.bl false) := rfl
      have n2 : oisi CS [.lst, .tup] (.int z) = .ok (.bl false) := rfl
      have n3 : oisi CS [.cls "Machine"] (.int z) = .ok (.bl false) := rfl
      have n4 : oisi CS [.bl] (.int z) = .ok (.bl false) := rfl
      have n5 : oisi CS [.str] (.int z) = .ok (.bl false) := rfl
      have n6 : oisi CS [.int] (.int z) = .ok (.bl true) := rfl
      unfold aB
      simp [var, n1, n2, n3, n4, n5, n6]
    | str s =>
      have n1 : oisN (.str s) = .ok (.bl false) := rfl
      have n2 : oisi CS [.lst, .tup] (.str s) = .ok (.bl false) := rfl
      have n3 : oisi CS [.cls "Machine"] (.str s) = .ok (.bl false) := rfl
      have n4 : oisi CS [.bl] (.str s) = .ok (.bl false) := rfl
      have n5 : oisi CS [.str] (.str s) = .ok (.bl true) := rfl
      have n6 : oeq (.str s) (.str s) = .ok (.bl true) := by rw [str_eq]; simp
      unfold aB
      simp [var, n1, n2, n3, n4, n5, n6]
/-! ### values made from the right marks -/
theorem AL_t {k : Nat} {xs : List D} (h : xs.length ≤ 1000) (ha : ∀ x ∈ xs, AL k x) : AL (k + 1) (.tup xs) := ⟨h, ha⟩
theorem AL_l {k : Nat} {xs : List D} (h : xs.length ≤ 1000) (ha : ∀ x ∈ xs, AL k x) : AL (k + 1) (.lst xs) := ⟨h, ha⟩
theorem AL_1 {k : Nat} {x : D} (h : AL k x) : ∀ y ∈ [x], AL k y := fun y hy => by
  rw [List.mem_singleton.mp hy]
  exact h
theorem AL_2 {k : Nat} {x z : D} (h : AL k x) (h2 : AL k z) : ∀ y ∈ [x, z], AL k y := fun y hy => by
  rcases List.mem_cons.mp hy with e | e
  · rw [e]
    exact h
  · exact AL_1 h2 y e
theorem AL_a {k : Nat} {xs ys : List D} (h : ∀ x ∈ xs, AL k x) (h2 : ∀ x ∈ ys, AL k x) : ∀ x ∈ xs ++ ys, AL k x := fun x hx => (List.mem_append.mp hx).elim (h x) (h2 x)
theorem AL_c {k : Nat} {xs : List D} {lo hi : Option Int} (h : ∀ x ∈ xs, AL k x) : ∀ x ∈ cut xs lo hi, AL k x := fun x hx => h x (cut_mem hx)
theorem AL_nD (k : Nat) (ms : List Nat) : ∀ x ∈ ms.map nD, AL (k + 1) x := fun x hx => by
  obtain ⟨m, _, rfl⟩ := List.mem_map.mp hx
  trivial
end Py.U
namespace Py.U
open PySem
/-! ### the same? -/
theorem integer_ok (a : Nat) : m_law_integer [nD a, nD a] = .ok (.bl true) := by
  have h1 : oisi CS [.int] (nD a) = .ok (.bl true) := rfl
  have h2 : oisi CS [.bl] (nD a) = .ok (.bl false) := rfl
  have h3 := nat_eq a a
  rw [decide_eq_true rfl] at h3
  unfold m_law_integer
  rw [fn2]
  unfold b__law_integer
  generalize nD a = A at *
  simp [var, h1, h2, h3]
theorem tryE_ok {es : List String} {i : Nat} {b : SM} {h : String → List (String × D) → SM} {e e' : Env} (h1 : b e = .ok (.next e')) : tryE es i b h e = .ok (.next e') := by
  unfold tryE
  rw [h1]
theorem firstF_none {p : Nat → Bool} : ∀ {m k : Nat}, firstF p k m = none → ∀ i, k ≤ i → i < k + m → p i = true
  | 0, k, _, i, h1, h2 => by omega
  | m + 1, k, h, i, h1, h2 => by
    unfold firstF at h
    cases hp : p k with
    | true =>
      rw [hp, if_pos rfl] at h
      by_cases e : i = k
      · rw [e]
        exact hp
      · exact firstF_none h i (by omega) (by omega)
    | false =>
      rw [hp, if_neg (by simp)] at h
      cases h
theorem below_AL {t k : Nat} {z : D} (h : belowD t z = true) : AL (k + 1) z := by
  cases z <;> first | trivial | simp [belowD] at h
theorem line_AL {w t k : Nat} {x : D} (h : lineok w t x = true) (hv : LnV 1000 x) : AL (k + 2) x := by
  cases x with
  | tup zs =>
    have h2 : (decide (zs.length = w) && zs.all (belowD t)) = true := h
    rw [Bool.and_eq_true, List.all_eq_true] at h2
    exact AL_t (hv.mem zs rfl).2 fun z hz => below_AL (h2.2 z hz)
  | _ => simp [lineok] at h
theorem table_AL {w t k : Nat} {xs : List D} (h : firstF (okAt w t xs) 0 xs.length = none) (hl : xs.length ≤ 1000) (hx : ∀ x ∈ xs, LnV 1000 x) : AL (k + 3) (.tup xs) := by
  refine AL_t hl fun x hm => ?_
  obtain ⟨i, hi, rfl⟩ := List.getElem_of_mem hm
  have q := firstF_none h i (by omega) (by omega)
  unfold okAt at q
  rw [List.getD_eq_getElem?_getD, List.getElem?_eq_getElem hi] at q
  exact line_AL q (hx _ hm)
theorem mems_tup {v : D} {xs : List D} (h : mems v = some xs) : btuple v = .ok (.tup xs) := by
  cases v <;> simp [mems] at h <;> subst h <;> rfl
theorem made_bad {i x y : D} {p : String} {k : Nat} (h1 : m_law_fault [i, x, y] = .ok (.tup [.str p, nD k])) (h2 : m_Machine [i, x, y] = eM p k) : m_law_made_rightly [i, x, y] = .ok (.bl true) := by
  have e1 : oidx (.tup [.str p, nD k]) (.int 0) = .ok (.str p) := rfl
  have e2 : oidx (.tup [.str p, nD k]) (.int 1) = .ok (nD k) := rfl
  have e3 : oisN (.tup [.str p, nD k]) = .ok (.bl false) := rfl
  have e4 := integer_ok k
  have e5 : oeq (.str p) (.str p) = .ok (.bl true) := by rw [str_eq]; simp
  have e6 : oisi CS [.str] (.str p) = .ok (.bl true) := rfl
  have x1 : ∀ e, xis ES EALL "InvalidMachine" ["InvalidMachine"] e = .ok (.bl true) := fun _ => rfl
  have x2 : ∀ e, xis ES EALL "InvalidMachine" ["ValueError"] e = .ok (.bl true) := fun _ => rfl
  have x3 : ∀ e, xis ES EALL "InvalidMachine" ["InvalidNumber", "InvalidWords", "InvalidReading", "InvalidRow", "InvalidMarks", "InvalidKind"] e = .ok (.bl false) := fun _ => rfl
  have x4 : ∀ e, xis ES EALL "InvalidMachine" ["InvalidPrimes", "InvalidText", "InvalidCommand", "Undefined", "NothingToDo", "NothingKept"] e = .ok (.bl false) := fun _ => rfl
  have x5 : ∀ e, xfld ES EFL "InvalidMachine" "part" (fM p k) e = .ok (.str p) := fun _ => rfl
  have x6 : ∀ e, xfld ES EFL "InvalidMachine" "place" (fM p k) e = .ok (nD k) := fun _ => rfl
  unfold eM at h2
  unfold m_law_made_rightly
  rw [fn3]
  unfold b__law_made_rightly
  refine (congrArg done ((asg_pass (d := .tup [.str p, nD k]) ?_).trans ?_)).trans (done_ret (.bl true))
  · simp [var, h1]
  rw [seq_eq]
  rw [tryE_exc (c := "InvalidMachine") (fs := fM p k) (d := .bl true) ?_ rfl ?_]
  · rfl
  · simp [var, h2]
  · generalize fM p k = F at *
    generalize D.tup [.str p, nD k] = DU at *
    generalize nD k = K at *
    simp [var, e1, e2, e3, e4, e5, e6, x1, x2, x3, x4, x5, x6]
theorem made_good {n : Nat} {x y : D} {xs ys : List D} (h1 : m_law_fault [nD n, x, y] = .ok .non) (h2 : m_Machine [nD n, x, y] = .ok (machV n xs ys)) (hx : mems x = some xs) (hy : mems y = some ys) (ax : AL 12 (.tup xs)) (ay : AL 12 (.tup ys)) : m_law_made_rightly [nD n, x, y] = .ok (.bl true) := by
  have e1 : oattr ["Machine"] "inputs" (machV n xs ys) = .ok (nD n) := rfl
  have e2 : oattr ["Machine"] "nexts" (machV n xs ys) = .ok (.tup xs) := rfl
  have e3 : oattr ["Machine"] "outs" (machV n xs ys) = .ok (.tup ys) := rfl
  have e4 := integer_ok n
  have e5 := mems_tup hx
  have e6 := mems_tup hy
  have e7 := alike_refl 12 _ ax
  have e8 := alike_refl 12 _ ay
  have e9 : oisi CS [.cls "Machine"] (machV n xs ys) = .ok (.bl true) := rfl
  have ea : onotN .non = .ok (.bl false) := rfl
  unfold m_law_made_rightly
  rw [fn3]
  unfold b__law_made_rightly
  refine (congrArg done ((asg_pass (d := .non) ?_).trans ?_)).trans (done_ret (.bl true))
  · simp [var, h1]
  refine (seq_next (tryE_ok (e' := [some (nD n), some x, some y, some .non, some (machV n xs ys), none]) ?_)).trans ?_
  · generalize nD n = N at *
    generalize machV n xs ys = M at *
    simp [var, h2]
  · generalize m_law_alike 12 = F at *
    generalize machV n xs ys = M at *
    generalize D.tup xs = X at *
    generalize D.tup ys = Y at *
    generalize nD n = N at *
    simp [var, e1, e2, e3, e4, e5, e6, e7, e8, e9, ea]
theorem made_rightly {i x y : D} (hi : gd i = true) (hx : TbV x) (hy : TbV y) : m_law_made_rightly [i, x, y] = .ok (.bl true) := by
  cases hin : inD i with
  | false => exact made_bad (fault_in hi hin) (mach_in hi hin)
  | true =>
    obtain ⟨n, rfl, h1, h3⟩ := inD_nat hin
    have f := fault_ok h1 h3 hx hy
    have m := mach_any h1 h3 hx hy
    cases hf : fault n x y with
    | some pk =>
      obtain ⟨p, k⟩ := pk
      rw [hf] at f m
      exact made_bad f m
    | none =>
      rw [hf] at f m
      dsimp only at f m
      unfold fault at hf
      cases hm : mems x with
      | none =>
        rw [hm] at hf
        cases hf
      | some xs =>
        rw [hm] at hf m
        dsimp only at hf m
        obtain ⟨hl, hxl⟩ := hx.mem xs hm
        split at hf
        · cases hf
        · cases hf1 : firstF (okAt (2 ^ n) xs.length xs) 0 xs.length with
          | some j =>
            rw [hf1] at hf
            cases hf
          | none =>
            rw [hf1] at hf
            dsimp only at hf
            cases hm2 : mems y with
            | none =>
              rw [hm2] at hf
              cases hf
            | some ys =>
              rw [hm2] at hf m
              dsimp only at hf m
              obtain ⟨hl2, hyl⟩ := hy.mem ys hm2
              cases hf2 : firstF (okAt (2 ^ n) 2 ys) 0 (min ys.length xs.length) with
              | some j =>
                rw [hf2] at hf
                cases hf
              | none =>
                rw [hf2] at hf
                dsimp only at hf
                split at hf
                · rename_i hq
                  rw [hq, Nat.min_self, ← hq] at hf2
                  exact made_good f m hm hm2 (table_AL hf1 hl hxl) (table_AL hf2 hl2 hyl)
                · cases hf
end Py.U
namespace Py.U
open PySem
theorem ix80 {a b c d e f g h : D} : oidx (.lst [a, b, c, d, e, f, g, h]) (.int 0) = .ok a := rfl
theorem ix81 {a b c d e f g h : D} : oidx (.lst [a, b, c, d, e, f, g, h]) (.int 1) = .ok b := rfl
theorem ix82 {a b c d e f g h : D} : oidx (.lst [a, b, c, d, e, f, g, h]) (.int 2) = .ok c := rfl
theorem ix83 {a b c d e f g h : D} : oidx (.lst [a, b, c, d, e, f, g, h]) (.int 3) = .ok d := rfl
theorem ix84 {a b c d e f g h : D} : oidx (.lst [a, b, c, d, e, f, g, h]) (.int 4) = .ok e := rfl
theorem setL_ok {i : Nat} {j m : EM} {e : Env} {xs : List D} {d : D} {k : Nat} (h1 : var i e = .ok (.lst xs)) (h2 : m e = .ok d) (h3 : j e = .ok (.int (k : Int))) (hk : k < xs.length) : setL i j m e = .ok (.next (e.set i (some (.lst (xs.set k d))))) := by
  unfold setL
  rw [h1, bind_ok]
  dsimp only
  rw [h2, bind_ok, h3, bind_ok]
  dsimp only
  have := ixN_nat hk
  show (match L2.ixN xs.length (k : Int) with | some n => Res.ok (Fl.next (e.set i (some (.lst (xs.set n d))))) | none => Res.stuck) = _
  rw [this]
theorem LnV.mono {a b : Nat} {v : D} (h : LnV a v) (hb : a ≤ b) : LnV b v := ⟨h.top, fun xs e => ⟨(h.mem xs e).1, Nat.le_trans (h.mem xs e).2 hb⟩⟩
theorem LnV.tup {b : Nat} {xs : List D} (h : ∀ x ∈ xs, gd x = true) (hl : xs.length ≤ b) : LnV b (.tup xs) := ⟨rfl, fun ys e => by
  cases e
  exact ⟨h, hl⟩⟩
theorem LnV.non {b : Nat} {v : D} (h : gd v = true) (h2 : isI .tup v = false) : LnV b v := ⟨h, fun ys e => by
  rw [e] at h2
  cases h2⟩
theorem gd_app {xs ys : List D} (h : ∀ x ∈ xs, gd x = true) (h2 : ∀ x ∈ ys, gd x = true) : ∀ x ∈ xs ++ ys, gd x = true := fun x hx => (List.mem_append.mp hx).elim (h x) (h2 x)
theorem gd_cut {xs : List D} {lo hi : Option Int} (h : ∀ x ∈ xs, gd x = true) : ∀ x ∈ cut xs lo hi, gd x = true := fun x hx => h x (cut_mem hx)
theorem gd_1 {x : D} (h : gd x = true) : ∀ y ∈ [x], gd y = true := fun y hy => by
  rw [List.mem_singleton.mp hy]
  exact h
theorem spoilt_member_ok {zs : List D} {t : Nat} {d0 d1 d2 d3 d4 d5 d6 d7 : Int} (b1 : 0 ≤ d1 ∧ d1 < 10) (hz : 0 < zs.length) (hl : zs.length ≤ 400) (hg : ∀ z ∈ zs, gd z = true) :
    ∃ v, m_law_spoilt_member [.tup zs, nD t, .lst [.int d0, .int d1, .int d2, .int d3, .int d4, .int d5, .int d6, .int d7]] = .ok v ∧ LnV (zs.length + 1) v := by
  have i0 := @ix80 (.int d0) (.int d1) (.int d2) (.int d3) (.int d4) (.int d5) (.int d6) (.int d7)
  have i1 := @ix81 (.int d0) (.int d1) (.int d2) (.int d3) (.int d4) (.int d5) (.int d6) (.int d7)
  have i2 := @ix82 (.int d0) (.int d1) (.int d2) (.int d3) (.int d4) (.int d5) (.int d6) (.int d7)
  have i3 := @ix83 (.int d0) (.int d1) (.int d2) (.int d3) (.int d4) (.int d5) (.int d6) (.int d7)
  generalize D.lst [.int d0, .int d1, .int d2, .int d3, .int d4, .int d5, .int d6, .int d7] = L at *
  unfold m_law_spoilt_member
  rw [fn3]
  unfold b__law_spoilt_member
  by_cases c0 : d0 = 0
  · subst c0
    refine ⟨.lst zs, ?_, .non rfl rfl⟩
    generalize nD t = T at *
    simp [var, i0]
  by_cases c1 : d0 = 1
  · subst c1
    refine ⟨.tup (cut zs none (some ((zs.length : Int) - 1))), ?_, .tup (gd_cut hg) (Nat.le_trans cut_len (by omega))⟩
    have l : blen (.tup zs) = .ok (.int (zs.length : Int)) := rfl
    have s : ∀ i, oslc (.tup zs) none (some i) = .ok (.tup (cut zs none (some i))) := fun _ => rfl
    generalize (zs.length : Int) = Z at *
    generalize D.tup zs = X at *
    generalize nD t = T at *
    simp [var, i0, slc_eq, bnd_none, bnd_some, l, s]
  by_cases c2 : d0 = 2
  · subst c2
    refine ⟨.tup (zs ++ [.int 0]), ?_, .tup (gd_app hg (gd_1 rfl)) (by simp)⟩
    have s : oadd (.tup zs) (.tup [.int 0]) = .ok (.tup (zs ++ [.int 0])) := oadd_tt (le_sz (by simp only [List.length_singleton]; omega))
    generalize D.tup zs = X at *
    generalize D.tup (zs ++ [.int 0]) = Y at *
    generalize nD t = T at *
    simp [var, i0, s]
  by_cases c3 : d0 = 3
  · subst c3
    obtain ⟨v, hv, q⟩ := oidx_mem (xs := [.non, .int 7, .str "01", .tup [], .bl true]) (i := d1 % 5) (by omega) (by simp; omega)
    refine ⟨v, ?_, ?_⟩
    · have m := omod_ii (i := d1) (j := 5) (by decide)
      generalize D.tup zs = X at *
      generalize nD t = T at *
      simp [var, i0, i1, m, q]
    · simp only [List.mem_cons, List.not_mem_nil, or_false] at hv
      rcases hv with rfl | rfl | rfl | rfl | rfl
      · exact .non rfl rfl
      · exact .non rfl rfl
      · exact .non rfl rfl
      · exact .tup (by simp) (by simp)
      · exact .non rfl rfl
  obtain ⟨bad, hv, q⟩ := oidx_mem (xs := [.int (-1), .int (t : Int), .int ((t : Int) + d3), .bl true, .bl false, .non, .str "0", .tup [.int 0], .lst [.int 0], .int (-1000000000000000000000000000000)]) b1.1 (by simp; omega)
  have gb : gd bad = true := by
    simp only [List.mem_cons, List.not_mem_nil, or_false] at hv
    rcases hv with rfl | rfl | rfl | rfl | rfl | rfl | rfl | rfl | rfl | rfl <;> rfl
  obtain ⟨at_, hat, hae⟩ := mod_nat d2 (n := zs.length) hz
  have hm : omod (.int d2) (.int (zs.length : Int)) = .ok (.int (at_ : Int)) := by rw [omod_ii (by omega), hae]
  have l : blen (.tup zs) = .ok (.int (zs.length : Int)) := rfl
  have l3 := cut_len (xs := zs) (lo := none) (hi := some (at_ : Int))
  have l4 := cut_len (xs := zs) (lo := some ((at_ : Int) + 1)) (hi := none)
  have s1 : oslc (.tup zs) none (some (at_ : Int)) = .ok (.tup (cut zs none (some (at_ : Int)))) := rfl
  have s2 : oslc (.tup zs) (some ((at_ : Int) + 1)) none = .ok (.tup (cut zs (some ((at_ : Int) + 1)) none)) := rfl
  have j1 : oadd (.tup (cut zs none (some (at_ : Int)))) (.tup [bad]) = .ok (.tup (cut zs none (some (at_ : Int)) ++ [bad])) := oadd_tt (le_sz (by simp only [List.length_singleton]; omega))
  have j2 : oadd (.tup (cut zs none (some (at_ : Int)) ++ [bad])) (.tup (cut zs (some ((at_ : Int) + 1)) none)) = .ok (.tup ((cut zs none (some (at_ : Int)) ++ [bad]) ++ cut zs (some ((at_ : Int) + 1)) none)) := oadd_tt (le_sz (by simp only [List.length_append, List.length_singleton]; omega))
  have lc1 : (cut zs none (some (at_ : Int))).length = at_ := by
    rw [cut_take zs (by omega), List.length_take]
    omega
  have lc2 : (cut zs (some ((at_ : Int) + 1)) none).length + at_ + 1 ≤ zs.length := by
    unfold cut
    have e0 : HT.sIx zs.length 0 (some ((at_ : Int) + 1)) = at_ + 1 := by
      have := HT.sIx_nat zs.length 0 (at_ + 1)
      rw [show ((at_ : Int) + 1) = ((at_ + 1 : Nat) : Int) by omega, this, Nat.min_eq_left (by omega)]
    rw [e0, List.length_take, List.length_drop]
    omega
  refine ⟨_, ?_, .tup (xs := (cut zs none (some (at_ : Int)) ++ [bad]) ++ cut zs (some ((at_ : Int) + 1)) none) (gd_app (gd_app (gd_cut hg) (gd_1 gb)) (gd_cut hg)) ?_⟩
  · have o30 := opow30
    unfold nD
    clear hv gb l3 l4 lc1 lc2 hae hat hl hz hg
    generalize D.tup ((cut zs none (some (at_ : Int)) ++ [bad]) ++ cut zs (some ((at_ : Int) + 1)) none) = R0 at *
    generalize D.tup (cut zs none (some (at_ : Int)) ++ [bad]) = R1 at *
    generalize D.tup (cut zs none (some (at_ : Int))) = R2 at *
    generalize D.tup (cut zs (some ((at_ : Int) + 1)) none) = R3 at *
    generalize (zs.length : Int) = Z at *
    generalize D.tup zs = X at *
    generalize (t : Int) = T at *
    generalize (at_ : Int) = A at *
    simp [var, i0, i1, i2, i3, c0, c1, c2, c3, slc_eq, bnd_none, bnd_some, l, hm, s1, s2, j1, j2, o30, q]
  · simp only [List.length_append, List.length_singleton, lc1]
    omega
end Py.U
namespace Py.U
open PySem
def spB : SM := (seq (asg (gnm 5) (bin omod (bin oidx (var 2) (bin oadd (cst (.int 5)) (var 4))) (un blen (var 3))))
  (Py.ite (andT (tst (un (oisi CS [.tup]) (bin oidx (var 3) (var 5)))) (tst (bin ogt (un blen (bin oidx (var 3) (var 5))) (cst (.int 1))))) (setL 3 (var 5) (call m_law_spoilt_member (argC (bin oidx (var 3) (var 5)) (argC (var 1) (argC (var 2) argN))))) skip))
abbrev L8 (d0 d1 d2 d3 d4 d5 d6 d7 : Int) : D := .lst [.int d0, .int d1, .int d2, .int d3, .int d4, .int d5, .int d6, .int d7]
theorem sp_step {ms : List D} {c t : Nat} {d0 d1 d2 d3 d4 d5 d6 d7 dk z : Int} (b1 : 0 ≤ d1 ∧ d1 < 10) (hp : 0 < ms.length) (hc : c ≤ 400) (hm : ∀ x ∈ ms, LnV c x) (hk : oidx (L8 d0 d1 d2 d3 d4 d5 d6 d7) (.int (5 + z)) = .ok (.int dk)) (a : D) (o5 : Option D) :
    ∃ ms' o5', spB [some a, some (nD t), some (L8 d0 d1 d2 d3 d4 d5 d6 d7), some (.lst ms), some (.int z), o5] = .ok (.next [some a, some (nD t), some (L8 d0 d1 d2 d3 d4 d5 d6 d7), some (.lst ms'), some (.int z), o5']) ∧ ms'.length = ms.length ∧ ∀ x ∈ ms', LnV (c + 1) x := by
  obtain ⟨at_, hat, hae⟩ := mod_nat dk (n := ms.length) hp
  have m1 : omod (.int dk) (.int (ms.length : Int)) = .ok (.int (at_ : Int)) := by rw [omod_ii (by omega), hae]
  have l1 : blen (.lst ms) = .ok (.int (ms.length : Int)) := rfl
  have ix : oidx (.lst ms) (.int (at_ : Int)) = .ok ms[at_] := oidx_l (by simp [hat])
  have hx := hm ms[at_] (List.getElem_mem hat)
  have e0 := isi_any (ts := [.tup]) hx.top rfl
  simp only [List.any_cons, List.any_nil, Bool.or_false] at e0
  have keep : ∀ x ∈ ms, LnV (c + 1) x := fun x h => (hm x h).mono (by omega)
  unfold spB
  generalize hy : ms[at_] = y at *
  have a5 : ∀ L, oidx L (.int (5 + z)) = .ok (.int dk) → (asg (gnm 5) (bin omod (bin oidx (var 2) (bin oadd (cst (.int 5)) (var 4))) (un blen (var 3)))) [some a, some (nD t), some L, some (.lst ms), some (.int z), o5] = .ok (.next [some a, some (nD t), some L, some (.lst ms), some (.int z), some (.int (at_ : Int))]) := fun L hL => by
    generalize nD t = T at *
    generalize (at_ : Int) = A at *
    generalize (ms.length : Int) = N at *
    generalize D.lst ms = M at *
    simp [var, hL, l1, m1]
  have skipped : ∀ b : Bool, (andT (tst (un (oisi CS [.tup]) (bin oidx (var 3) (var 5)))) (tst (bin ogt (un blen (bin oidx (var 3) (var 5))) (cst (.int 1))))) [some a, some (nD t), some (L8 d0 d1 d2 d3 d4 d5 d6 d7), some (.lst ms), some (.int z), some (.int (at_ : Int))] = .ok false →
      ∃ ms' o5', (seq (asg (gnm 5) (bin omod (bin oidx (var 2) (bin oadd (cst (.int 5)) (var 4))) (un blen (var 3))))
  (Py.ite (andT (tst (un (oisi CS [.tup]) (bin oidx (var 3) (var 5)))) (tst (bin ogt (un blen (bin oidx (var 3) (var 5))) (cst (.int 1))))) (setL 3 (var 5) (call m_law_spoilt_member (argC (bin oidx (var 3) (var 5)) (argC (var 1) (argC (var 2) argN))))) skip)) [some a, some (nD t), some (L8 d0 d1 d2 d3 d4 d5 d6 d7), some (.lst ms), some (.int z), o5] = .ok (.next [some a, some (nD t), some (L8 d0 d1 d2 d3 d4 d5 d6 d7), some (.lst ms'), some (.int z), o5']) ∧ ms'.length = ms.length ∧ ∀ x ∈ ms', LnV (c + 1) x := fun _ h => by
    refine ⟨ms, some (.int (at_ : Int)), (seq_next (a5 _ hk)).trans ?_, rfl, keep⟩
    unfold Py.ite
    rw [h, bind_ok]
    rfl
  cases hi : isI .tup y with
  | false =>
    rw [hi] at e0
    refine skipped true ?_
    generalize L8 d0 d1 d2 d3 d4 d5 d6 d7 = L at *
    generalize nD t = T at *
    generalize (at_ : Int) = A at *
    generalize D.lst ms = M at *
    simp [var, ix, e0]
  | true =>
    obtain ⟨zs, rfl⟩ := isI_tup hi
    rw [hi] at e0
    obtain ⟨hg, hl⟩ := hx.mem zs rfl
    have l2 : blen (.tup zs) = .ok (.int (zs.length : Int)) := rfl
    by_cases h1 : 1 < zs.length
    · obtain ⟨v, hv, hv2⟩ := spoilt_member_ok (t := t) (d0 := d0) (d2 := d2) (d3 := d3) (d4 := d4) (d5 := d5) (d6 := d6) (d7 := d7) b1 (by omega) (by omega) hg
      have g1 : ogt (.int (zs.length : Int)) (.int 1) = .ok (.bl true) := by
        rw [ogt_ii, decide_eq_true (by omega)]
      refine ⟨ms.set at_ v, some (.int (at_ : Int)), (seq_next (a5 _ hk)).trans ?_, by simp, fun x hx2 => ?_⟩
      · change m_law_spoilt_member [_, _, L8 d0 d1 d2 d3 d4 d5 d6 d7] = _ at hv
        unfold Py.ite
        have ht : (andT (tst (un (oisi CS [.tup]) (bin oidx (var 3) (var 5)))) (tst (bin ogt (un blen (bin oidx (var 3) (var 5))) (cst (.int 1))))) [some a, some (nD t), some (L8 d0 d1 d2 d3 d4 d5 d6 d7), some (.lst ms), some (.int z), some (.int (at_ : Int))] = .ok true := by
          generalize L8 d0 d1 d2 d3 d4 d5 d6 d7 = L at *
          generalize nD t = T at *
          generalize (at_ : Int) = A at *
          generalize (zs.length : Int) = ZL at *
          generalize D.tup zs = X at *
          generalize D.lst ms = M at *
          simp [var, ix, e0, l2, g1]
        rw [ht, bind_ok, if_pos rfl]
        refine setL_ok rfl ?_ rfl hat
        generalize L8 d0 d1 d2 d3 d4 d5 d6 d7 = L at *
        generalize nD t = T at *
        generalize (at_ : Int) = A at *
        generalize D.tup zs = X at *
        generalize D.lst ms = M at *
        simp [var, ix, hv]
      · rcases List.mem_or_eq_of_mem_set hx2 with h | h
        · exact keep x h
        · rw [h]
          exact hv2.mono (by omega)
    · have g1 : ogt (.int (zs.length : Int)) (.int 1) = .ok (.bl false) := by
        rw [ogt_ii, decide_eq_false (by omega)]
      refine skipped true ?_
      generalize L8 d0 d1 d2 d3 d4 d5 d6 d7 = L at *
      generalize nD t = T at *
      generalize (at_ : Int) = A at *
      generalize (zs.length : Int) = ZL at *
      generalize D.tup zs = X at *
      generalize D.lst ms = M at *
      simp [var, ix, e0, l2, g1]
theorem spoilt_table_ok {ms : List D} {c t : Nat} {d0 d1 d2 d3 d4 d5 d6 d7 : Int} (b1 : 0 ≤ d1 ∧ d1 < 10) (b4 : 0 ≤ d4 ∧ d4 < 2) (hp : 0 < ms.length) (hc : c ≤ 300) (hm : ∀ x ∈ ms, LnV c x) :
    ∃ ms', m_law_spoilt_table [.lst ms, nD t, L8 d0 d1 d2 d3 d4 d5 d6 d7] = .ok (.lst ms') ∧ ms'.length = ms.length ∧ ∀ x ∈ ms', LnV (c + 2) x := by
  obtain ⟨r, hr⟩ : ∃ r : Nat, 1 + d4 = (r : Int) := ⟨(1 + d4).toNat, by omega⟩
  have r2 : r ≤ 2 := by omega
  have ix4 := @ix84 (.int d0) (.int d1) (.int d2) (.int d3) (.int d4) (.int d5) (.int d6) (.int d7)
  have hks : ∀ i : Nat, i < 2 → ∃ dk, oidx (L8 d0 d1 d2 d3 d4 d5 d6 d7) (.int (5 + (i : Int))) = .ok (.int dk) := fun i hi => by
    have : i = 0 ∨ i = 1 := by omega
    rcases this with rfl | rfl
    · exact ⟨d5, rfl⟩
    · exact ⟨d6, rfl⟩
  obtain ⟨e', q, ms', o4, o5, hl, hx, rfl⟩ := forR_inv (b := forB (gnm 4) spB) (n := r) (e := [some (.lst ms), some (nD t), some (L8 d0 d1 d2 d3 d4 d5 d6 d7), some (.lst ms), none, none])
    (fun k e => ∃ ms' o4 o5, ms'.length = ms.length ∧ (∀ x ∈ ms', LnV (c + k) x) ∧ e = [some (.lst ms), some (nD t), some (L8 d0 d1 d2 d3 d4 d5 d6 d7), some (.lst ms'), o4, o5]) ⟨ms, none, none, rfl, hm, rfl⟩ (by
      rintro k e hk ⟨ms', o4, o5, hl, hx, rfl⟩
      obtain ⟨dk, hdk⟩ := hks k (by omega)
      obtain ⟨ms2, o5', q, hl2, hx2⟩ := sp_step (t := t) b1 (by rw [hl]; exact hp) (by omega) hx hdk (.lst ms) o5
      exact ⟨_, q, ms2, _, _, hl2.trans hl, hx2, rfl⟩)
  refine ⟨ms', ?_, hl, fun x h => (hx x h).mono (by omega)⟩
  have hM : irng1 (bin oadd (cst (.int 1)) (bin oidx (var 2) (cst (.int 4)))) [some (.lst ms), some (nD t), some (L8 d0 d1 d2 d3 d4 d5 d6 d7), some (.lst ms), none, none] = .ok ((List.range r).map fun i => .int ((i : Nat) : Int)) := irng1_nat (by simp [var, ix4, hr]) (rng_lt (by omega))
  unfold m_law_spoilt_table
  rw [fn3]
  show done (seq (asg (gnm 3) (un blist (var 0))) (seq (for_ (irng1 (bin oadd (cst (.int 1)) (bin oidx (var 2) (cst (.int 4))))) (gnm 4) spB) (ret (var 3))) [some (.lst ms), some (nD t), some (L8 d0 d1 d2 d3 d4 d5 d6 d7), none, none, none]) = _
  refine (congrArg done ((asg_pass (d := .lst ms) ?_).trans ?_)).trans (done_ret (.lst ms'))
  · rfl
  refine (for_pass hM q).trans ?_
  rfl
end Py.U
namespace Py.U
open PySem
def mach1 : D := machV 1 [.tup [.int 0, .int 0]] [.tup [.int 0, .int 1]]
theorem TbV.non {v : D} (h : gd v = true) (h2 : mems v = none) : TbV v := ⟨h, fun xs e => by
  rw [h2] at e
  cases e⟩
theorem TbV.lst {xs : List D} (hl : xs.length ≤ 1000) (h : ∀ x ∈ xs, LnV 1000 x) : TbV (.lst xs) := ⟨rfl, fun ys e => by
  cases e
  exact ⟨hl, h⟩⟩
theorem TbV.tup {xs : List D} (hl : xs.length ≤ 1000) (h : ∀ x ∈ xs, LnV 1000 x) : TbV (.tup xs) := ⟨rfl, fun ys e => by
  cases e
  exact ⟨hl, h⟩⟩
theorem mach1_made : m_Machine [.int 1, .lst [.tup [.int 0, .int 0]], .lst [.tup [.int 0, .int 1]]] = .ok mach1 := by
  have h1 : ∀ a b : Int, LnV 1000 (.tup [.int a, .int b]) := fun a b => .tup (fun x hx => by
    simp only [List.mem_cons, List.not_mem_nil, or_false] at hx
    rcases hx with rfl | rfl <;> rfl) (by simp)
  have q := mach_any (n := 1) (x := .lst [.tup [.int 0, .int 0]]) (y := .lst [.tup [.int 0, .int 1]]) (by decide) (by decide) (.lst (by simp) (fun x hx => by
    rw [List.mem_singleton.mp hx]
    exact h1 _ _)) (.lst (by simp) (fun x hx => by
    rw [List.mem_singleton.mp hx]
    exact h1 _ _))
  exact q
theorem other_nexts_any {ms : List D} {c : Nat} {d0 d1 d2 d3 d4 d5 d6 d7 : Int} (b1 : 0 ≤ d1 ∧ d1 < 10) (b4 : 0 ≤ d4 ∧ d4 < 2) (hp : 0 < ms.length) (hl : ms.length ≤ 100) (hc : c ≤ 100) (hm : ∀ x ∈ ms, LnV c x) :
    ∃ v, m_law_other_nexts [.lst ms, L8 d0 d1 d2 d3 d4 d5 d6 d7] = .ok v ∧ TbV v := by
  have i1 : oidx (L8 d0 d1 d2 d3 d4 d5 d6 d7) (.int 1) = .ok (.int d1) := rfl
  have i7 : oidx (L8 d0 d1 d2 d3 d4 d5 d6 d7) (.int 7) = .ok (.int d7) := rfl
  obtain ⟨ms', hs, hl', hx⟩ := spoilt_table_ok (t := ms.length) (d0 := d0) (d2 := d2) (d3 := d3) (d5 := d5) (d6 := d6) (d7 := d7) b1 b4 hp (by omega) hm
  have l1 : blen (.lst ms) = .ok (nD ms.length) := rfl
  have mm := mach1_made
  unfold m_law_other_nexts
  rw [fn2]
  unfold b__law_other_nexts
  by_cases c7 : d7 = 0
  · obtain ⟨v, hv, q⟩ := oidx_mem (xs := [.non, .int 3, .bl true, .str "ab", .tup [], .lst [], .int (-1), mach1, .str "", .lst [.int 3]]) b1.1 (by simp; omega)
    refine ⟨v, ?_, ?_⟩
    · subst c7
      clear hs
      generalize L8 d0 d1 d2 d3 d4 d5 d6 0 = L at *
      generalize D.lst ms = M at *
      generalize mach1 = MA at *
      simp [var, i1, i7, mm, q]
    · simp only [List.mem_cons, List.not_mem_nil, or_false] at hv
      rcases hv with rfl | rfl | rfl | rfl | rfl | rfl | rfl | rfl | rfl | rfl
      · exact .non rfl rfl
      · exact .non rfl rfl
      · exact .non rfl rfl
      · exact .non rfl rfl
      · exact .tup (by simp) (by simp)
      · exact .lst (by simp) (by simp)
      · exact .non rfl rfl
      · exact .non rfl rfl
      · exact .non rfl rfl
      · exact .lst (by simp) (fun x hx => by
          rw [List.mem_singleton.mp hx]
          exact .non rfl rfl)
  · refine ⟨.lst ms', ?_, .lst (by omega) fun x h => (hx x h).mono (by omega)⟩
    generalize L8 d0 d1 d2 d3 d4 d5 d6 d7 = L at *
    generalize D.lst ms = M at *
    generalize nD ms.length = N at *
    simp [var, i7, c7, l1, hs]
theorem lrep12 {x : D} {d4 : Int} (b4 : 0 ≤ d4 ∧ d4 < 2) : ∃ k, k ≤ 2 ∧ olrep (.lst [x]) (.int (1 + d4)) = .ok (.lst (List.replicate k x)) := by
  have : d4 = 0 ∨ d4 = 1 := by omega
  rcases this with rfl | rfl
  · exact ⟨1, by decide, rfl⟩
  · exact ⟨2, by decide, rfl⟩
theorem other_outs_any {ms : List D} {z : List D} {c : Nat} {d0 d1 d2 d3 d4 d5 d6 d7 : Int} (b1 : 0 ≤ d1 ∧ d1 < 10) (b4 : 0 ≤ d4 ∧ d4 < 2) (b6 : 0 ≤ d6) (b7 : 0 ≤ d7 ∧ d7 < 8) (hp : 0 < ms.length) (hl : ms.length ≤ 100) (hc : c ≤ 100) (hm : ∀ x ∈ ms, LnV c x) (hz : ms[0]? = some (.tup z)) (hz2 : 0 < z.length) :
    ∃ v, m_law_other_outs [.lst ms, L8 d0 d1 d2 d3 d4 d5 d6 d7] = .ok v ∧ TbV v := by
  have i1 : oidx (L8 d0 d1 d2 d3 d4 d5 d6 d7) (.int 1) = .ok (.int d1) := rfl
  have i4 : oidx (L8 d0 d1 d2 d3 d4 d5 d6 d7) (.int 4) = .ok (.int d4) := rfl
  have i6 : oidx (L8 d0 d1 d2 d3 d4 d5 d6 d7) (.int 6) = .ok (.int d6) := rfl
  have i7 : oidx (L8 d0 d1 d2 d3 d4 d5 d6 d7) (.int 7) = .ok (.int d7) := rfl
  obtain ⟨ms', hs, hl', hx⟩ := spoilt_table_ok (t := 2) (d0 := d0) (d2 := d2) (d3 := d3) (d5 := d5) (d6 := d6) (d7 := d7) b1 b4 hp (by omega) hm
  have hz0 : oidx (.lst ms) (.int 0) = .ok (.tup z) := oidx_l (k := 0) hz
  have hzm : LnV c (.tup z) := hm _ (List.mem_of_getElem? hz)
  obtain ⟨hzg, hzl⟩ := hzm.mem z rfl
  obtain ⟨sv, hsv, hsx⟩ := spoilt_member_ok (t := 2) (d0 := d0) (d2 := d2) (d3 := d3) (d4 := d4) (d5 := d5) (d6 := d6) (d7 := d7) b1 hz2 (by omega) hzg
  have mm := mach1_made
  unfold m_law_other_outs
  rw [fn2]
  unfold b__law_other_outs
  by_cases c7 : d7 = 0
  · obtain ⟨v, hv, q⟩ := oidx_mem (xs := [.non, .int 3, .bl false, .str "01", .tup [], .lst [], .int 0, mach1, .str "", .int 1000000000000000000000000000000]) b1.1 (by simp; omega)
    refine ⟨v, ?_, ?_⟩
    · subst c7
      have o30 := opow30
      clear hs hsv
      generalize L8 d0 d1 d2 d3 d4 d5 d6 0 = L at *
      generalize D.lst ms = M at *
      generalize mach1 = MA at *
      simp [var, i1, i7, mm, o30, q]
    · simp only [List.mem_cons, List.not_mem_nil, or_false] at hv
      rcases hv with rfl | rfl | rfl | rfl | rfl | rfl | rfl | rfl | rfl | rfl
      · exact .non rfl rfl
      · exact .non rfl rfl
      · exact .non rfl rfl
      · exact .non rfl rfl
      · exact .tup (by simp) (by simp)
      · exact .lst (by simp) (by simp)
      · exact .non rfl rfl
      · exact .non rfl rfl
      · exact .non rfl rfl
      · exact .non rfl rfl
  -- the members that are gone on with
  have hmem : ∃ us, us.length = ms.length ∧ (∀ x ∈ us, LnV (c + 2) x) ∧ ∀ (r : SM) (o : Option D), seq (Py.ite (tst (bin olt (bin oidx (var 1) (cst (.int 7))) (cst (.int 4)))) (asg (gnm 2) (call m_law_spoilt_table (argC (var 0) (argC (cst (.int 2)) (argC (var 1) argN))))) skip) r [some (.lst ms), some (L8 d0 d1 d2 d3 d4 d5 d6 d7), some (.lst ms)] = r [some (.lst ms), some (L8 d0 d1 d2 d3 d4 d5 d6 d7), some (.lst us)] := by
    by_cases c4 : d7 < 4
    · refine ⟨ms', hl', hx, fun r o => ite_in ?_ ?_⟩
      · generalize L8 d0 d1 d2 d3 d4 d5 d6 d7 = L at *
        simp [var, i7, c4]
      · change m_law_spoilt_table [_, .int 2, _] = _ at hs
        generalize L8 d0 d1 d2 d3 d4 d5 d6 d7 = L at *
        generalize D.lst ms = M at *
        generalize D.lst ms' = M2 at *
        simp [var, hs]
    · refine ⟨ms, rfl, fun x h => (hm x h).mono (by omega), fun r o => chk_pass ?_⟩
      generalize L8 d0 d1 d2 d3 d4 d5 d6 d7 = L at *
      simp [var, i7, c4]
  obtain ⟨us, hul, hux, hu⟩ := hmem
  have lu : blen (.lst us) = .ok (.int (us.length : Int)) := rfl
  have c70 : (d7 == 0) = false := by simpa using c7
  have start : ∀ (v : D) (R : SM), R [some (.lst ms), some (L8 d0 d1 d2 d3 d4 d5 d6 d7), some (.lst us)] = .ok (.ret v) → (seq (Py.ite (tst (bin oeq (bin oidx (var 1) (cst (.int 7))) (cst (.int 0)))) (ret (bin oidx (lstE (argC (cst .non) (argC (cst (.int 3)) (argC (cst (.bl false)) (argC (cst (.str "01")) (argC (tupE argN) (argC (lstE argN) (argC (cst (.int 0)) (argC (call m_Machine (argC (cst (.int 1)) (argC (lstE (argC (tupE (argC (cst (.int 0)) (argC (cst (.int 0)) argN))) argN)) (argC (lstE (argC (tupE (argC (cst (.int 0)) (argC (cst (.int 1)) argN))) argN)) argN)))) (argC (cst (.str "")) (argC (bin opow (cst (.int 10)) (cst (.int 30))) argN))))))))))) (bin oidx (var 1) (cst (.int 1))))) skip)
      (seq (asg (gnm 2) (un blist (var 0)))
      (seq (Py.ite (tst (bin olt (bin oidx (var 1) (cst (.int 7))) (cst (.int 4)))) (asg (gnm 2) (call m_law_spoilt_table (argC (var 0) (argC (cst (.int 2)) (argC (var 1) argN))))) skip) R))) [some (.lst ms), some (L8 d0 d1 d2 d3 d4 d5 d6 d7), none] = .ok (.ret v) := fun v R h => by
    refine (chk_pass ?_).trans ?_
    · generalize L8 d0 d1 d2 d3 d4 d5 d6 d7 = L at *
      simp [var, i7, c7]
    refine (asg_pass (d := .lst ms) rfl).trans ?_
    exact (hu R none).trans h
  by_cases e34 : d7 = 3 ∨ d7 = 4
  · obtain ⟨at_, hat, hae⟩ := mod_nat d6 (n := us.length) (by omega)
    have m1 : omod (.int d6) (.int (us.length : Int)) = .ok (.int (at_ : Int)) := by rw [omod_ii (by omega), hae]
    have s1 : oslc (.lst us) none (some (at_ : Int)) = .ok (.lst (cut us none (some (at_ : Int)))) := rfl
    refine ⟨.lst (cut us none (some (at_ : Int))), (congrArg done (start (.lst (cut us none (some (at_ : Int)))) _ ?_)).trans rfl, .lst (Nat.le_trans cut_len (by omega)) fun x h => (hux x (cut_mem h)).mono (by omega)⟩
    clear start hu hs hsv hz hz0
    generalize L8 d0 d1 d2 d3 d4 d5 d6 d7 = L at *
    generalize D.lst (cut us none (some (at_ : Int))) = C at *
    generalize (at_ : Int) = A at *
    generalize (us.length : Int) = UL at *
    generalize D.lst us = U at *
    generalize D.lst ms = M at *
    rcases e34 with rfl | rfl <;> simp [var, i6, i7, slc_eq, bnd_none, bnd_some, lu, m1, s1]
  · have e3 : ¬ d7 = 3 := fun h => e34 (.inl h)
    have e4 : ¬ d7 = 4 := fun h => e34 (.inr h)
    by_cases e25 : d7 = 2 ∨ d7 = 5
    · obtain ⟨k, hk, hr⟩ := lrep12 (x := .tup z) b4
      have j1 : oadd (.lst us) (.lst (List.replicate k (.tup z))) = .ok (.lst (us ++ List.replicate k (.tup z))) := oadd_ll (le_sz (by rw [List.length_replicate]; omega))
      refine ⟨.lst (us ++ List.replicate k (.tup z)), (congrArg done (start (.lst (us ++ List.replicate k (.tup z))) _ ?_)).trans rfl, .lst (by rw [List.length_append, List.length_replicate]; omega) fun x h => ?_⟩
      · clear start hu hs hsv hz
        generalize L8 d0 d1 d2 d3 d4 d5 d6 d7 = L at *
        generalize D.lst (us ++ List.replicate k (.tup z)) = C at *
        generalize D.lst (List.replicate k (.tup z)) = C2 at *
        generalize D.tup z = Z at *
        generalize D.lst us = U at *
        generalize D.lst ms = M at *
        rcases e25 with rfl | rfl <;> simp [var, i4, i7, hz0, hr, j1]
      · rcases List.mem_append.mp h with h | h
        · exact (hux x h).mono (by omega)
        · rw [List.eq_of_mem_replicate h]
          exact hzm.mono (by omega)
    · have e2 : ¬ d7 = 2 := fun h => e25 (.inl h)
      have e5 : ¬ d7 = 5 := fun h => e25 (.inr h)
      by_cases e6 : d7 = 6
      · have j1 : oadd (.lst us) (.lst [sv]) = .ok (.lst (us ++ [sv])) := oadd_ll (le_sz (by simp only [List.length_singleton]; omega))
        refine ⟨.lst (us ++ [sv]), (congrArg done (start (.lst (us ++ [sv])) _ ?_)).trans rfl, .lst (by simp only [List.length_append, List.length_singleton]; omega) fun x h => ?_⟩
        · change m_law_spoilt_member [_, .int 2, L8 d0 d1 d2 d3 d4 d5 d6 d7] = _ at hsv
          clear start hu hs hz
          generalize L8 d0 d1 d2 d3 d4 d5 d6 d7 = L at *
          generalize D.lst (us ++ [sv]) = C at *
          generalize D.tup z = Z at *
          generalize D.lst us = U at *
          generalize D.lst ms = M at *
          subst e6
          simp [var, i7, hz0, hsv, j1]
        · rcases List.mem_append.mp h with h | h
          · exact (hux x h).mono (by omega)
          · rw [List.mem_singleton.mp h]
            exact hsx.mono (by omega)
      · refine ⟨.lst us, (congrArg done (start (.lst us) _ ?_)).trans rfl, .lst (by omega) fun x h => (hux x h).mono (by omega)⟩
        clear start hu hs hsv hz
        generalize L8 d0 d1 d2 d3 d4 d5 d6 d7 = L at *
        generalize D.lst us = U at *
        generalize D.lst ms = M at *
        simp [var, i7, e2, e3, e4, e5, e6]
end Py.U
namespace Py.U
open PySem
theorem AL_mem {k : Nat} {v : D} {xs : List D} (h : AL (k + 2) v) (hm : mems v = some xs) : (∀ x ∈ xs, gd x = true) ∧ xs.length ≤ 1000 := by
  cases v <;> simp [mems] at hm <;> subst hm
  all_goals
    have h' : _ ≤ 1000 ∧ ∀ x ∈ _, AL (k + 1) x := h
    exact ⟨fun x hx => (h'.2 x hx).gd, h'.1⟩
/-! ### readings -/
def isRd (n : Nat) : D → Bool
  | .tup xs => xs.all (belowD (2 ^ n))
  | _ => false
theorem isRd_not {v : D} (h : isI .tup v = false) (n : Nat) : isRd n v = false := by
  cases v <;> first | rfl | simp [isI] at h
theorem reading_any {v : D} {n k : Nat} (hv : AL (k + 2) v) (hn : n ≤ 1000) : m_is_reading [v, nD n] = .ok (.bl (isRd n v)) := by
  have e0 := isi_any (ts := [.tup]) hv.gd rfl
  simp only [List.any_cons, List.any_nil, Bool.or_false] at e0
  unfold m_is_reading
  rw [fn2]
  unfold b_is_reading
  cases hi : isI .tup v with
  | false =>
    rw [hi] at e0
    rw [isRd_not hi]
    generalize nD n = N at *
    simp [var, e0]
  | true =>
    obtain ⟨xs, rfl⟩ := isI_tup hi
    obtain ⟨hg, hl⟩ := AL_mem (xs := xs) hv rfl
    rw [hi] at e0
    have h4 := shl_nD hn
    have hc : ∀ a, lcE (iseq (var 0)) [2] (gnm 2) yes (call m_is_below (argC (var 2) (argC (bin oshl (cst (.int 1)) (var 1)) argN))) [some (.tup xs), some (nD n), a] = .ok (.lst (xs.map fun x => .bl (belowD (2 ^ n) x))) := fun a => by
      refine lc_mapI (ys := xs) (k := fun x => x) (by simp [var]) (le_sz hl) fun x hx => ?_
      have q := below_any (hg x hx) (2 ^ n)
      generalize belowD (2 ^ n) x = Bw at *
      generalize nD (2 ^ n) = TP at *
      generalize nD n = N at *
      generalize D.tup xs = T at *
      exact ⟨_, rfl, by simp only [wipe]; simp [var, q, h4]⟩
    have hb : ball (.lst (xs.map fun x => D.bl (belowD (2 ^ n) x))) = .ok (.bl (isRd n (.tup xs))) := by
      have := ball_bools (xs.map (belowD (2 ^ n)))
      rw [List.map_map] at this
      refine this.trans ?_
      rw [List.all_map]
      rfl
    generalize D.lst (xs.map fun x => D.bl (belowD (2 ^ n) x)) = Z at *
    generalize isRd n (.tup xs) = J at *
    generalize nD n = N at *
    generalize D.tup xs = T at *
    simp [var, e0, hc, hb]
/-! ### numbers and words -/
def numD : D → Bool
  | .int z => decide (0 ≤ z)
  | _ => false
def wordD (w : Nat) : D → Bool
  | .int z => decide (0 ≤ z) && decide (Builtin.Int.intBits z ≤ w)
  | _ => false
theorem num_not {d : D} (h : (isI .int d && !isI .bl d) = false) : numD d = false := by
  cases d <;> first | rfl | simp [isI] at h
theorem number_any {d : D} (h : gd d = true) : m_is_number [d] = .ok (.bl (numD d)) := by
  have e := isint_any h
  unfold m_is_number
  rw [fn1]
  unfold b_is_number
  cases hi : (isI .int d && !isI .bl d) with
  | true =>
    obtain ⟨z, rfl⟩ := not_int hi
    rw [hi] at e
    unfold numD
    by_cases h0 : 0 ≤ z <;> simp [var, e, h0]
  | false =>
    rw [hi] at e
    rw [num_not hi]
    simp [var, e]
theorem word_any {d : D} (h : gd d = true) (w : Nat) : m_is_word [d, nD w] = .ok (.bl (wordD w d)) := by
  have e := number_any h
  unfold m_is_word
  rw [fn2]
  unfold b_is_word nD
  cases d with
  | int z =>
    by_cases h0 : 0 ≤ z
    · have e1 : numD (.int z) = true := decide_eq_true h0
      rw [e1] at e
      have e2 : ole (.int ((Builtin.Int.intBits z : Nat) : Int)) (.int (w : Int)) = .ok (.bl (wordD w (.int z))) := by
        rw [ole_ii]
        show _ = Res.ok (D.bl (decide (0 ≤ z) && decide (Builtin.Int.intBits z ≤ w)))
        rw [decide_eq_true h0, Bool.true_and]
        congr 2
        exact decide_eq_decide.mpr (by omega)
      have e3 : bbits (.int z) = .ok (.int ((Builtin.Int.intBits z : Nat) : Int)) := rfl
      generalize wordD w (.int z) = B at *
      generalize ((Builtin.Int.intBits z : Nat) : Int) = Y at *
      generalize (w : Int) = W at *
      simp [var, e, e2, e3]
    · have e1 : numD (.int z) = false := decide_eq_false h0
      rw [e1] at e
      have e2 : wordD w (.int z) = false := by
        show (decide (0 ≤ z) && decide (Builtin.Int.intBits z ≤ w)) = false
        rw [decide_eq_false h0, Bool.false_and]
      rw [e2]
      generalize (w : Int) = W at *
      simp [var, e]
  | _ =>
    have e2 := e
    rw [show numD _ = false from rfl] at e2
    show done _ = Res.ok (.bl false)
    generalize (w : Int) = W at *
    simp [var, e2]
def wordsD (n w : Nat) (v : D) : Bool := match mems v with
  | none => false
  | some xs => decide (xs.length = n) && xs.all (wordD w)
theorem words_any {v : D} {n w k : Nat} (hv : AL (k + 2) v) : m_are_words [v, nD w, nD n, nD n] = .ok (.bl (wordsD n w v)) := by
  have h1 := as_tuple_any hv.gd
  unfold m_are_words
  rw [fn4]
  unfold b_are_words wordsD
  cases hm : mems v with
  | none =>
    rw [hm] at h1
    dsimp only at h1 ⊢
    have h2 : oisN .non = .ok (.bl true) := rfl
    generalize nD w = W at *
    generalize nD n = N at *
    simp [var, h1, h2]
  | some xs =>
    rw [hm] at h1
    dsimp only at h1 ⊢
    obtain ⟨hg, hl⟩ := AL_mem hv hm
    have h2 : oisN (.tup xs) = .ok (.bl false) := rfl
    have h3 : blen (.tup xs) = .ok (nD xs.length) := rfl
    have le : ∀ a b : Nat, ole (nD a) (nD b) = .ok (.bl (decide (a ≤ b))) := fun a b => by
      unfold nD
      rw [ole_ii]
      congr 2
      exact decide_eq_decide.mpr (by omega)
    have l1 := le n xs.length
    have l2 := le xs.length n
    by_cases he : xs.length = n
    · rw [decide_eq_true (by omega)] at l1 l2
      rw [decide_eq_true he, Bool.true_and]
      have hc : ∀ a, lcE (iseq (var 4)) [5] (gnm 5) yes (call m_is_word (argC (var 5) (argC (var 1) argN))) [some v, some (nD w), some (nD n), some (nD n), some (.tup xs), a] = .ok (.lst (xs.map fun x => .bl (wordD w x))) := fun a => by
        refine lc_mapI (ys := xs) (k := fun x => x) (by simp [var]) (le_sz hl) fun x hx => ?_
        have q := word_any (hg x hx) w
        generalize wordD w x = Bw at *
        generalize nD w = W at *
        generalize nD n = N at *
        generalize D.tup xs = T at *
        exact ⟨_, rfl, by simp only [wipe]; simp [var, q]⟩
      have hb : ball (.lst (xs.map fun x => D.bl (wordD w x))) = .ok (.bl (xs.all (wordD w))) := by
        have := ball_bools (xs.map (wordD w))
        rw [List.map_map] at this
        refine this.trans ?_
        rw [List.all_map]
        rfl
      generalize D.lst (xs.map fun x => D.bl (wordD w x)) = Z at *
      generalize xs.all (wordD w) = J at *
      generalize nD xs.length = L at *
      generalize nD w = W at *
      generalize nD n = N at *
      generalize D.tup xs = T at *
      simp [var, h1, h2, h3, l1, l2, hc, hb]
    · rw [decide_eq_false he, Bool.false_and]
      by_cases hlt : n ≤ xs.length
      · rw [decide_eq_true hlt] at l1
        rw [decide_eq_false (by omega)] at l2
        generalize nD xs.length = L at *
        generalize nD w = W at *
        generalize nD n = N at *
        generalize D.tup xs = T at *
        simp [var, h1, h2, h3, l1, l2]
      · rw [decide_eq_false hlt] at l1
        clear l2
        generalize nD xs.length = L at *
        generalize nD w = W at *
        generalize nD n = N at *
        generalize D.tup xs = T at *
        simp [var, h1, h2, h3, l1]
/-! ### what the machine says of wrong arguments -/
section
variable {n k j : Nat} {xs ys : List D}
theorem mv_in : oattr ["Machine"] "inputs" (machV n xs ys) = .ok (nD n) := rfl
theorem mv_nx : oattr ["Machine"] "nexts" (machV n xs ys) = .ok (.tup xs) := rfl
theorem led_state {s r : D} (hs : gd s = true) (h : belowD xs.length s = false) : m_Machine_led [machV n xs ys, s, r] = .exc "InvalidNumber" [("value", s)] := by
  have h1 := below_any hs xs.length
  rw [h] at h1
  have h2 := mv_nx (n := n) (xs := xs) (ys := ys)
  have h3 : blen (.tup xs) = .ok (nD xs.length) := rfl
  have hr : ∀ a b c d, rais "InvalidNumber" ["value"] (argC (var 1) argN) [a, some b, c, d, none] = .exc "InvalidNumber" [("value", b)] := fun a b c d => rais_1 rfl
  unfold m_Machine_led
  rw [fn3]
  unfold b_Machine_led
  generalize machV n xs ys = M at *
  generalize D.tup xs = X at *
  generalize nD xs.length = L at *
  simp [var, h1, h2, h3, hr]
theorem led_reading {s r : D} (hs : gd s = true) (h : belowD xs.length s = true) (hn : n ≤ 1000) (ha : AL (k + 2) r) (hr : isRd n r = false) : m_Machine_led [machV n xs ys, s, r] = .exc "InvalidReading" [("value", r)] := by
  have h1 := below_any hs xs.length
  rw [h] at h1
  have h2 := mv_nx (n := n) (xs := xs) (ys := ys)
  have h3 : blen (.tup xs) = .ok (nD xs.length) := rfl
  have h4 := mv_in (n := n) (xs := xs) (ys := ys)
  have h5 := reading_any ha hn
  rw [hr] at h5
  have hx : ∀ a b c d, rais "InvalidReading" ["value"] (argC (var 2) argN) [a, b, some c, d, none] = .exc "InvalidReading" [("value", c)] := fun a b c d => rais_1 rfl
  unfold m_Machine_led
  rw [fn3]
  unfold b_Machine_led
  generalize machV n xs ys = M at *
  generalize D.tup xs = X at *
  generalize nD xs.length = L at *
  generalize nD n = N at *
  simp [var, h1, h2, h3, h4, h5, hx]
theorem led_none {s : D} (hs : gd s = true) (h : belowD xs.length s = true) (hn : n ≤ 1000) : m_Machine_led [machV n xs ys, s, .tup []] = .ok s := by
  have h1 := below_any hs xs.length
  rw [h] at h1
  have h2 := mv_nx (n := n) (xs := xs) (ys := ys)
  have h3 : blen (.tup xs) = .ok (nD xs.length) := rfl
  have h4 := mv_in (n := n) (xs := xs) (ys := ys)
  have h5 := reading_any (k := 0) (v := .tup []) (n := n) ⟨by simp, fun x hx => by cases hx⟩ hn
  rw [show isRd n (.tup []) = true from rfl] at h5
  unfold m_Machine_led
  rw [fn3]
  unfold b_Machine_led
  generalize machV n xs ys = M at *
  generalize D.tup xs = X at *
  generalize nD xs.length = L at *
  generalize nD n = N at *
  simp [var, h1, h2, h3, h4, h5, forL]
theorem bits_reading {r : D} (hn : n ≤ 1000) (ha : AL (k + 2) r) (hr : isRd n r = false) : m_Machine_bits_written [machV n xs ys, r] = .exc "InvalidReading" [("value", r)] := by
  have h4 := mv_in (n := n) (xs := xs) (ys := ys)
  have h5 := reading_any ha hn
  rw [hr] at h5
  have hx : ∀ a c, rais "InvalidReading" ["value"] (argC (var 1) argN) [a, some c, none, none, none] = .exc "InvalidReading" [("value", c)] := fun a c => rais_1 rfl
  unfold m_Machine_bits_written
  rw [fn2]
  unfold b_Machine_bits_written
  generalize machV n xs ys = M at *
  generalize nD n = N at *
  simp [var, h4, h5, hx]
theorem write_width {w v : D} (hw : gd w = true) (h : numD w = false) : m_Machine_write [machV n xs ys, w, v] = .exc "InvalidNumber" [("value", w)] := by
  have h1 := number_any hw
  rw [h] at h1
  have hx : ∀ a b c, rais "InvalidNumber" ["value"] (argC (var 1) argN) [a, some b, c, none, none, none] = .exc "InvalidNumber" [("value", b)] := fun a b c => rais_1 rfl
  unfold m_Machine_write
  rw [fn3]
  unfold b_Machine_write
  generalize machV n xs ys = M at *
  simp [var, h1, hx]
theorem write_words {w : Nat} {v : D} (ha : AL (k + 2) v) (h : wordsD n w v = false) : m_Machine_write [machV n xs ys, nD w, v] = .exc "InvalidWords" [("value", v)] := by
  have h1 := number_any (d := nD w) rfl
  rw [show numD (nD w) = true from decide_eq_true (Int.natCast_nonneg w)] at h1
  have h4 := mv_in (n := n) (xs := xs) (ys := ys)
  have h5 := words_any (n := n) (w := w) ha
  rw [h] at h5
  have hx : ∀ a b c, rais "InvalidWords" ["value"] (argC (var 2) argN) [a, b, some c, none, none, none] = .exc "InvalidWords" [("value", c)] := fun a b c => rais_1 rfl
  unfold m_Machine_write
  rw [fn3]
  unfold b_Machine_write
  generalize machV n xs ys = M at *
  generalize nD w = W at *
  generalize nD n = N at *
  simp [var, h1, h4, h5, hx]
theorem callM_v {m : String} {f : List D → Res D} {a : EM} {am : AM} {e : Env} (h : a e = .ok (machV n xs ys)) (hm : m ≠ "inputs" ∧ m ≠ "nexts" ∧ m ≠ "outs" := by decide) : callM "Machine" m f a am e = (am e >>= fun ds => f (machV n xs ys :: ds)) := by
  unfold callM
  rw [h, bind_ok]
  unfold machV
  dsimp only
  rw [if_pos]
  refine ⟨rfl, ?_⟩
  obtain ⟨h1, h2, h3⟩ := hm
  have e1 : (m == "inputs") = false := by simpa using h1
  have e2 : (m == "nexts") = false := by simpa using h2
  have e3 : (m == "outs") = false := by simpa using h3
  simp [List.lookup, e1, e2, e3]
theorem called_0 (a b : D) : m_law_called [machV n xs ys, .int 0, a, b] = done ((m_Machine_led [machV n xs ys, a, b]) >>= fun d => .ok (.ret d)) := by
  have q := callM_v (n := n) (xs := xs) (ys := ys) (m := "led") (f := m_Machine_led) (a := var 0) (am := argC (var 2) (argC (var 3) argN)) (e := [some (machV n xs ys), some (.int 0), some a, some b]) rfl
  unfold m_law_called
  rw [fn4]
  unfold b__law_called
  generalize machV n xs ys = M at *
  simp [var, q]
  cases m_Machine_led [M, a, b] <;> rfl
theorem called_1 (a b : D) : m_law_called [machV n xs ys, .int 1, a, b] = done ((m_Machine_bits_written [machV n xs ys, b]) >>= fun d => .ok (.ret d)) := by
  have q := callM_v (n := n) (xs := xs) (ys := ys) (m := "bits_written") (f := m_Machine_bits_written) (a := var 0) (am := argC (var 3) argN) (e := [some (machV n xs ys), some (.int 1), some a, some b]) rfl
  unfold m_law_called
  rw [fn4]
  unfold b__law_called
  generalize machV n xs ys = M at *
  simp [var, q]
  cases m_Machine_bits_written [M, b] <;> rfl
theorem called_2 (a b : D) : m_law_called [machV n xs ys, .int 2, a, b] = done ((m_Machine_write [machV n xs ys, a, b]) >>= fun d => .ok (.ret d)) := by
  have q := callM_v (n := n) (xs := xs) (ys := ys) (m := "write") (f := m_Machine_write) (a := var 0) (am := argC (var 2) (argC (var 3) argN)) (e := [some (machV n xs ys), some (.int 2), some a, some b]) rfl
  unfold m_law_called
  rw [fn4]
  unfold b__law_called
  generalize machV n xs ys = M at *
  simp [var, q]
end
end Py.U
namespace Py.U
open PySem
theorem fn5 {n : Nat} {b : SM} {x y z u v : D} : fn 5 n b [x, y, z, u, v] = done (b (some x :: some y :: some z :: some u :: some v :: List.replicate (n - 5) none)) := if_pos rfl
theorem refused_one {M W a b : D} (ha : AL 12 a) (h : m_law_called [M, W, a, b] = .exc "InvalidNumber" [("value", a)]) : m_law_refused [M, W, a, b, .bl true] = .ok (.bl true) := by
  have al := alike_refl 12 a ha
  unfold m_law_refused
  rw [fn5]
  unfold b__law_refused
  rw [seq_eq]
  rw [tryE_exc (d := .bl true) (drop_exc (ds := [M, W, a, b]) (by simp [var]) h) rfl ?_]
  · rfl
  · have x1 : ∀ e, xis ES EALL "InvalidNumber" ["InvalidMachine", "InvalidRow", "InvalidMarks", "InvalidKind", "InvalidPrimes", "InvalidText"] e = .ok (.bl false) := fun _ => rfl
    have x2 : ∀ e, xis ES EALL "InvalidNumber" ["InvalidCommand", "Undefined", "NothingToDo", "NothingKept"] e = .ok (.bl false) := fun _ => rfl
    have x3 : ∀ e, xis ES EALL "InvalidNumber" ["ValueError"] e = .ok (.bl true) := fun _ => rfl
    have x4 : ∀ e, xis ES EALL "InvalidNumber" ["InvalidNumber"] e = .ok (.bl true) := fun _ => rfl
    have x5 : ∀ e, xis ES EALL "InvalidNumber" ["InvalidReading"] e = .ok (.bl false) := fun _ => rfl
    have x6 : ∀ e, xis ES EALL "InvalidNumber" ["InvalidWords"] e = .ok (.bl false) := fun _ => rfl
    have x7 : ∀ e, xfld ES EFL "InvalidNumber" "value" [("value", a)] e = .ok a := fun _ => rfl
    have y1 : Py.one (.bl true) (.bl true) = .ok (.bl false) := rfl
    have y2 : Py.one (.bl false) (.bl false) = .ok (.bl false) := rfl
    generalize m_law_alike 12 = F at *
    simp [var, x1, x2, x3, x4, x5, x6, x7, y1, y2, al]
theorem refused_two {M W a b : D} (ha : AL 12 b) (h : m_law_called [M, W, a, b] = .exc "InvalidReading" [("value", b)]) (h1 : olt W (.int 2) = .ok (.bl true)) (h2 : oeq W (.int 2) = .ok (.bl false)) : m_law_refused [M, W, a, b, .bl false] = .ok (.bl true) := by
  have al := alike_refl 12 b ha
  unfold m_law_refused
  rw [fn5]
  unfold b__law_refused
  rw [seq_eq]
  rw [tryE_exc (d := .bl true) (drop_exc (ds := [M, W, a, b]) (by simp [var]) h) rfl ?_]
  · rfl
  · have x1 : ∀ e, xis ES EALL "InvalidReading" ["InvalidMachine", "InvalidRow", "InvalidMarks", "InvalidKind", "InvalidPrimes", "InvalidText"] e = .ok (.bl false) := fun _ => rfl
    have x2 : ∀ e, xis ES EALL "InvalidReading" ["InvalidCommand", "Undefined", "NothingToDo", "NothingKept"] e = .ok (.bl false) := fun _ => rfl
    have x3 : ∀ e, xis ES EALL "InvalidReading" ["ValueError"] e = .ok (.bl true) := fun _ => rfl
    have x4 : ∀ e, xis ES EALL "InvalidReading" ["InvalidNumber"] e = .ok (.bl false) := fun _ => rfl
    have x5 : ∀ e, xis ES EALL "InvalidReading" ["InvalidReading"] e = .ok (.bl true) := fun _ => rfl
    have x6 : ∀ e, xis ES EALL "InvalidReading" ["InvalidWords"] e = .ok (.bl false) := fun _ => rfl
    have x7 : ∀ e, xfld ES EFL "InvalidReading" "value" [("value", b)] e = .ok b := fun _ => rfl
    have y1 : Py.one (.bl true) (.bl true) = .ok (.bl false) := rfl
    have y2 : Py.one (.bl false) (.bl false) = .ok (.bl false) := rfl
    generalize m_law_alike 12 = F at *
    simp [var, x1, x2, x3, x4, x5, x6, x7, y1, y2, al, h1, h2]
theorem refused_words {M a b : D} (ha : AL 12 b) (h : m_law_called [M, .int 2, a, b] = .exc "InvalidWords" [("value", b)]) : m_law_refused [M, .int 2, a, b, .bl false] = .ok (.bl true) := by
  have al := alike_refl 12 b ha
  unfold m_law_refused
  rw [fn5]
  unfold b__law_refused
  rw [seq_eq]
  rw [tryE_exc (d := .bl true) (drop_exc (ds := [M, .int 2, a, b]) (by simp [var]) h) rfl ?_]
  · rfl
  · have x1 : ∀ e, xis ES EALL "InvalidWords" ["InvalidMachine", "InvalidRow", "InvalidMarks", "InvalidKind", "InvalidPrimes", "InvalidText"] e = .ok (.bl false) := fun _ => rfl
    have x2 : ∀ e, xis ES EALL "InvalidWords" ["InvalidCommand", "Undefined", "NothingToDo", "NothingKept"] e = .ok (.bl false) := fun _ => rfl
    have x3 : ∀ e, xis ES EALL "InvalidWords" ["ValueError"] e = .ok (.bl true) := fun _ => rfl
    have x4 : ∀ e, xis ES EALL "InvalidWords" ["InvalidNumber"] e = .ok (.bl false) := fun _ => rfl
    have x5 : ∀ e, xis ES EALL "InvalidWords" ["InvalidReading"] e = .ok (.bl false) := fun _ => rfl
    have x6 : ∀ e, xis ES EALL "InvalidWords" ["InvalidWords"] e = .ok (.bl true) := fun _ => rfl
    have x7 : ∀ e, xfld ES EFL "InvalidWords" "value" [("value", b)] e = .ok b := fun _ => rfl
    have y1 : Py.one (.bl true) (.bl true) = .ok (.bl false) := rfl
    have y2 : Py.one (.bl false) (.bl false) = .ok (.bl false) := rfl
    generalize m_law_alike 12 = F at *
    simp [var, x1, x2, x3, x4, x5, x6, x7, y1, y2, al]
section
variable {n : Nat} {xs ys : List D}
theorem ref_state {s r : D} (ha : AL 12 s) (h : belowD xs.length s = false) : m_law_refused [machV n xs ys, .int 0, s, r, .bl true] = .ok (.bl true) :=
  refused_one ha (by rw [called_0, led_state ha.gd h]; rfl)
theorem ref_led {s r : D} (hs : gd s = true) (hb : belowD xs.length s = true) (hn : n ≤ 1000) (ha : AL 12 r) (h : isRd n r = false) : m_law_refused [machV n xs ys, .int 0, s, r, .bl false] = .ok (.bl true) :=
  refused_two ha (by rw [called_0, led_reading (k := 10) hs hb hn ha h]; rfl) rfl rfl
theorem ref_bits {s r : D} (hn : n ≤ 1000) (ha : AL 12 r) (h : isRd n r = false) : m_law_refused [machV n xs ys, .int 1, s, r, .bl false] = .ok (.bl true) :=
  refused_two ha (by rw [called_1, bits_reading (k := 10) hn ha h]; rfl) rfl rfl
theorem ref_width {w v : D} (ha : AL 12 w) (h : numD w = false) : m_law_refused [machV n xs ys, .int 2, w, v, .bl true] = .ok (.bl true) :=
  refused_one ha (by rw [called_2, write_width ha.gd h]; rfl)
theorem ref_words {w : Nat} {v : D} (ha : AL 12 v) (h : wordsD n w v = false) : m_law_refused [machV n xs ys, .int 2, nD w, v, .bl false] = .ok (.bl true) :=
  refused_words ha (by rw [called_2, write_words (k := 10) ha h]; rfl)
end
/-! ### the wrong values -/
theorem mixed_bad {n : Nat} {xs ys : List D} {b : D} (h : belowD (2 ^ n) b = false) : isRd n (.tup ((xs ++ [b]) ++ ys)) = false := by
  show ((xs ++ [b]) ++ ys).all (belowD (2 ^ n)) = false
  simp [h]
theorem big_word {w : Nat} {z : Int} (h : 2 ^ w ≤ z.natAbs) : wordD w (.int z) = false := by
  show (decide (0 ≤ z) && decide (Builtin.Int.intBits z ≤ w)) = false
  rw [decide_eq_false (p := Builtin.Int.intBits z ≤ w) (fun q => by
    have := PySem.intBits_le_iff.mp q
    omega), Bool.and_false]
def badS (t : Nat) (u : Int) : List D := [.int (-1), .int (t : Int), .int ((t : Int) + u), .bl true, .bl false, .non, .str "0", .tup [.int 0], .lst [.int 1], .int (-1000000000000000000000000000000)]
theorem badS_in {t : Nat} {u : Int} (hu : 0 ≤ u) : ∀ v ∈ badS t u, belowD t v = false ∧ AL 12 v := fun v hv => by
  have i0 : ∀ k z, AL (k + 1) (.int z) := fun k _ => trivial
  unfold badS at hv
  simp only [List.mem_cons, List.not_mem_nil, or_false] at hv
  rcases hv with rfl | rfl | rfl | rfl | rfl | rfl | rfl | rfl | rfl | rfl
  · exact ⟨rfl, trivial⟩
  · refine ⟨?_, trivial⟩
    show (decide (0 ≤ (t : Int)) && decide ((t : Int) < (t : Int))) = false
    rw [decide_eq_false (p := (t : Int) < (t : Int)) (Int.lt_irrefl _), Bool.and_false]
  · refine ⟨?_, trivial⟩
    show (decide (0 ≤ (t : Int) + u) && decide ((t : Int) + u < (t : Int))) = false
    rw [decide_eq_false (p := (t : Int) + u < (t : Int)) (by omega), Bool.and_false]
  · exact ⟨rfl, trivial⟩
  · exact ⟨rfl, trivial⟩
  · exact ⟨rfl, trivial⟩
  · exact ⟨rfl, trivial⟩
  · exact ⟨rfl, AL_t (by simp) (AL_1 (i0 10 0))⟩
  · exact ⟨rfl, AL_l (by simp) (AL_1 (i0 10 1))⟩
  · exact ⟨rfl, trivial⟩
def badB (t : Nat) (u : Int) : List D := [.int (-1), .int (t : Int), .int ((t : Int) + u), .bl true, .bl false, .non, .str "0", .tup [.int 0]]
theorem badB_in {t : Nat} {u : Int} (hu : 0 ≤ u) : ∀ v ∈ badB t u, belowD t v = false ∧ AL 11 v := fun v hv => by
  have i0 : ∀ k z, AL (k + 1) (.int z) := fun k _ => trivial
  unfold badB at hv
  simp only [List.mem_cons, List.not_mem_nil, or_false] at hv
  rcases hv with rfl | rfl | rfl | rfl | rfl | rfl | rfl | rfl
  · exact ⟨rfl, trivial⟩
  · refine ⟨?_, trivial⟩
    show (decide (0 ≤ (t : Int)) && decide ((t : Int) < (t : Int))) = false
    rw [decide_eq_false (p := (t : Int) < (t : Int)) (Int.lt_irrefl _), Bool.and_false]
  · refine ⟨?_, trivial⟩
    show (decide (0 ≤ (t : Int) + u) && decide ((t : Int) + u < (t : Int))) = false
    rw [decide_eq_false (p := (t : Int) + u < (t : Int)) (by omega), Bool.and_false]
  · exact ⟨rfl, trivial⟩
  · exact ⟨rfl, trivial⟩
  · exact ⟨rfl, trivial⟩
  · exact ⟨rfl, trivial⟩
  · exact ⟨rfl, AL_t (by simp) (AL_1 (i0 9 0))⟩
theorem badW_in {w : Nat} {u : Int} (hu : 0 ≤ u) : ∀ v ∈ badB (2 ^ w) u, wordD w v = false := fun v hv => by
  unfold badB at hv
  have p0 := Nat.two_pow_pos w
  simp only [List.mem_cons, List.not_mem_nil, or_false] at hv
  rcases hv with rfl | rfl | rfl | rfl | rfl | rfl | rfl | rfl
  · rfl
  · exact big_word (by rw [Int.natAbs_natCast]; exact Nat.le_refl _)
  · exact big_word (by
      generalize 2 ^ w = P at *
      omega)
  · rfl
  · rfl
  · rfl
  · rfl
  · rfl
def badR (ls : List D) : List D := [.lst ls, .non, .int 0, .str "01", .tup [.tup ls, .int 0]]
theorem badR_in {n : Nat} {ls : List D} (hl : ls.length ≤ 1000) (ha : ∀ k, ∀ x ∈ ls, AL (k + 1) x) : ∀ v ∈ badR ls, isRd n v = false ∧ AL 12 v := fun v hv => by
  unfold badR at hv
  simp only [List.mem_cons, List.not_mem_nil, or_false] at hv
  rcases hv with rfl | rfl | rfl | rfl | rfl
  · exact ⟨rfl, AL_l hl (ha 10)⟩
  · exact ⟨rfl, trivial⟩
  · exact ⟨rfl, trivial⟩
  · exact ⟨rfl, trivial⟩
  · exact ⟨rfl, AL_t (by simp) (AL_2 (AL_t hl (ha 9)) trivial)⟩
theorem AL_rep (k n : Nat) : ∀ x ∈ List.replicate n (D.int 0), AL (k + 1) x := fun x hx => by
  rw [List.eq_of_mem_replicate hx]
  trivial
theorem wordsD_len {n w : Nat} {v : D} {xs : List D} (hm : mems v = some xs) (h : xs.length ≠ n) : wordsD n w v = false := by
  unfold wordsD
  rw [hm]
  show (decide (xs.length = n) && _) = false
  rw [decide_eq_false h, Bool.false_and]
theorem wordsD_bad {n w : Nat} {v b : D} {xs : List D} (hm : mems v = some xs) (hb : b ∈ xs) (h : wordD w b = false) : wordsD n w v = false := by
  unfold wordsD
  rw [hm]
  show (_ && xs.all (wordD w)) = false
  have : xs.all (wordD w) = false := by
    rw [List.all_eq_false]
    exact ⟨b, hb, by rw [h]; simp⟩
  rw [this, Bool.and_false]
def badV (n : Nat) : List D := [.lst (List.replicate n (.int 0) ++ [.int 0]), .tup (cut (List.replicate n (.int 0)) (some 1) none), .non, .int 0, .str "0"]
theorem cut1_len {n : Nat} (h : 1 ≤ n) (x : D) : (cut (List.replicate n x) (some 1) none).length = n - 1 := by
  unfold cut
  have e0 : HT.sIx (List.replicate n x).length 0 (some (1 : Int)) = 1 := by
    rw [show (1 : Int) = ((1 : Nat) : Int) from rfl, HT.sIx_nat, List.length_replicate, Nat.min_eq_left h]
  have e1 : HT.sIx (List.replicate n x).length (List.replicate n x).length none = (List.replicate n x).length := rfl
  rw [e0, e1, List.length_take, List.length_drop, List.length_replicate]
  omega
theorem badV_in {n w : Nat} (h1 : 1 ≤ n) (h3 : n ≤ 3) : ∀ v ∈ badV n, wordsD n w v = false ∧ AL 12 v := fun v hv => by
  unfold badV at hv
  simp only [List.mem_cons, List.not_mem_nil, or_false] at hv
  rcases hv with rfl | rfl | rfl | rfl | rfl
  · exact ⟨wordsD_len (xs := List.replicate n (.int 0) ++ [.int 0]) rfl (by simp), AL_l (by simp; omega) (AL_a (AL_rep 10 n) (AL_1 trivial))⟩
  · have := cut1_len h1 (.int 0)
    exact ⟨wordsD_len (xs := cut (List.replicate n (.int 0)) (some 1) none) rfl (by omega), AL_t (by omega) (AL_c (AL_rep 10 n))⟩
  · exact ⟨rfl, trivial⟩
  · exact ⟨rfl, trivial⟩
  · exact ⟨rfl, trivial⟩
def badN : List D := [.int (-1), .bl true, .bl false, .non, .str "3", .tup [.int 3], .lst [.int 2], .int (-1000000000000000000000000000000)]
theorem badN_in : ∀ v ∈ badN, numD v = false ∧ AL 12 v := fun v hv => by
  unfold badN at hv
  simp only [List.mem_cons, List.not_mem_nil, or_false] at hv
  rcases hv with rfl | rfl | rfl | rfl | rfl | rfl | rfl | rfl
  · exact ⟨rfl, trivial⟩
  · exact ⟨rfl, trivial⟩
  · exact ⟨rfl, trivial⟩
  · exact ⟨rfl, trivial⟩
  · exact ⟨rfl, trivial⟩
  · exact ⟨rfl, AL_t (by simp) (AL_1 trivial)⟩
  · exact ⟨rfl, AL_l (by simp) (AL_1 trivial)⟩
  · exact ⟨rfl, trivial⟩
end Py.U
namespace Py.U
open PySem
theorem cut_none {α : Type} (xs : List α) {k : Nat} (h : k < xs.length) : ∃ a b, cut xs none (some (k : Int)) = a ∧ a.length = k ∧ cut xs (some ((k : Int) + 1)) none = b ∧ b.length = xs.length - (k + 1) := by
  refine ⟨_, _, rfl, ?_, rfl, ?_⟩
  · rw [cut_take xs (by omega), List.length_take]
    omega
  · unfold cut
    have e0 : HT.sIx xs.length 0 (some ((k : Int) + 1)) = k + 1 := by
      rw [show ((k : Int) + 1) = ((k + 1 : Nat) : Int) by omega, HT.sIx_nat, Nat.min_eq_left (by omega)]
    have e1 : HT.sIx xs.length xs.length none = xs.length := rfl
    rw [e0, e1, List.length_take, List.length_drop]
    omega
def wB : SM := (Py.ite (notT (tst (call m_law_refused (argC (var 0) (argC (cst (.int 2)) (argC (var 10) (argC (var 14) (argC (cst (.bl false)) argN)))))))) (ret (cst (.bl false))) skip)
theorem words_loop {M W : D} {vs : List D} (h : ∀ v ∈ vs, m_law_refused [M, .int 2, W, v, .bl false] = .ok (.bl true)) (a1 a2 a3 a4 a5 a6 a7 a8 a9 b1 b2 b3 o : Option D) :
    ∃ o', forL (forB (gnm 14) wB) vs [some M, a1, a2, a3, a4, a5, a6, a7, a8, a9, some W, b1, b2, b3, o] = .ok (.next [some M, a1, a2, a3, a4, a5, a6, a7, a8, a9, some W, b1, b2, b3, o']) := by
  obtain ⟨e', h1, o', h2⟩ := forL_inv (b := forB (gnm 14) wB) (xs := vs) (e := [some M, a1, a2, a3, a4, a5, a6, a7, a8, a9, some W, b1, b2, b3, o])
    (fun _ e => ∃ o, e = [some M, a1, a2, a3, a4, a5, a6, a7, a8, a9, some W, b1, b2, b3, o]) 0 ⟨o, rfl⟩ (by
      rintro k e hk ⟨o, rfl⟩
      have q := h _ (List.getElem_mem hk)
      generalize vs[k] = x at *
      refine ⟨[some M, a1, a2, a3, a4, a5, a6, a7, a8, a9, some W, b1, b2, b3, some x], ?_, _, rfl⟩
      unfold wB
      simp [var, q])
  subst h2
  exact ⟨o', h1⟩
theorem lrep0 (n : Nat) (h : n ≤ 1000) : olrep (.lst [.int 0]) (nD n) = .ok (.lst (List.replicate n (.int 0))) := by
  have := rep_one 0 n h
  rw [List.map_replicate] at this
  exact this
theorem shl1 (w : Nat) (h : w ≤ 1000) : oshl (.int 1) (.int (w : Int)) = .ok (.int ((2 ^ w : Nat) : Int)) := by
  have := shl_nD h
  exact this
theorem calls_ok {n : Nat} {xs ys : List D} {ls : List Nat} {d0 d1 d2 d3 d4 d5 d6 d7 : Int} (h1 : 1 ≤ n) (h3 : n ≤ 3) (hx : 1 ≤ xs.length) (hl : 1 ≤ ls.length) (hl2 : ls.length ≤ 100)
    (b1 : 0 ≤ d1 ∧ d1 < 10) (b2 : 0 ≤ d2 ∧ d2 < 8) (b3 : 0 ≤ d3) :
    m_law_calls_refused [machV n xs ys, nD xs.length, .lst (ls.map nD), L8 d0 d1 d2 d3 d4 d5 d6 d7] = .ok (.bl true) := by
  have i0 : oidx (L8 d0 d1 d2 d3 d4 d5 d6 d7) (.int 0) = .ok (.int d0) := rfl
  have i1 : oidx (L8 d0 d1 d2 d3 d4 d5 d6 d7) (.int 1) = .ok (.int d1) := rfl
  have i2 : oidx (L8 d0 d1 d2 d3 d4 d5 d6 d7) (.int 2) = .ok (.int d2) := rfl
  have i3 : oidx (L8 d0 d1 d2 d3 d4 d5 d6 d7) (.int 3) = .ok (.int d3) := rfl
  have i5 : oidx (L8 d0 d1 d2 d3 d4 d5 d6 d7) (.int 5) = .ok (.int d5) := rfl
  have i6 : oidx (L8 d0 d1 d2 d3 d4 d5 d6 d7) (.int 6) = .ok (.int d6) := rfl
  have m1 : oattr ["Machine"] "inputs" (machV n xs ys) = .ok (nD n) := mv_in
  have sh : oshl (.int 1) (nD n) = .ok (.int ((2 ^ n : Nat) : Int)) := shl_nD (n := n) (by omega)
  -- the state
  obtain ⟨st, hst, q6⟩ := oidx_mem (xs := badS xs.length d3) b1.1 (by simp [badS]; omega)
  obtain ⟨s1, s2⟩ := badS_in b3 st hst
  -- the letter and the reading
  have hlm : (ls.map nD).length = ls.length := by simp
  obtain ⟨at_, hat, hae⟩ := mod_nat d6 (n := ls.length) (by omega)
  have e7 : omod (.int d6) (.int (ls.length : Int)) = .ok (.int (at_ : Int)) := by rw [omod_ii (by omega), hae]
  have ll : blen (.lst (ls.map nD)) = .ok (.int (ls.length : Int)) := by rw [blen_l, hlm]
  obtain ⟨bad, hbad, q8⟩ := oidx_mem (xs := badB (2 ^ n) d3) b2.1 (by simp [badB]; omega)
  obtain ⟨t1, t2⟩ := badB_in b3 bad hbad
  obtain ⟨C1, C2, c1, c2, c3, c4⟩ := cut_none (ls.map nD) (k := at_) (by omega)
  have hlr : ∀ k, ∀ x ∈ ls.map nD, AL (k + 1) x := fun k => AL_nD k ls
  have k1 : oslc (.lst (ls.map nD)) none (some (at_ : Int)) = .ok (.lst C1) := by rw [oslc_l, c1]
  have k2 : oslc (.lst (ls.map nD)) (some ((at_ : Int) + 1)) none = .ok (.lst C2) := by rw [oslc_l, c3]
  have j1 : oadd (.tup C1) (.tup [bad]) = .ok (.tup (C1 ++ [bad])) := oadd_tt (le_sz (by simp only [List.length_singleton]; omega))
  have j2 : oadd (.tup (C1 ++ [bad])) (.tup C2) = .ok (.tup ((C1 ++ [bad]) ++ C2)) := oadd_tt (le_sz (by simp only [List.length_append, List.length_singleton]; omega))
  have hr0 : isRd n (.tup ((C1 ++ [bad]) ++ C2)) = false := mixed_bad t1
  have ar0 : AL 12 (.tup ((C1 ++ [bad]) ++ C2)) := AL_t (by simp only [List.length_append, List.length_singleton]; omega) (AL_a (AL_a (by rw [← c1]; exact AL_c (hlr 10)) (AL_1 t2)) (by rw [← c3]; exact AL_c (hlr 10)))
  obtain ⟨br, hbr, q9⟩ := oidx_mem (xs := badR (ls.map nD)) (i := d2 % 5) (by omega) (by simp [badR]; omega)
  obtain ⟨u1, u2⟩ := badR_in (n := n) (by omega) hlr br hbr
  have mod5 := omod_ii (i := d2) (j := 5) (by decide)
  have mod8 := omod_ii (i := d1) (j := 8) (by decide)
  -- calls of led, bits_written
  have f1 : ∀ r, m_law_refused [machV n xs ys, .int 0, st, r, .bl true] = .ok (.bl true) := fun r => ref_state s2 s1
  have hS1 : ((xs.length : Int) - 1) = ((xs.length - 1 : Nat) : Int) := by omega
  have lt1 : belowD xs.length (.int ((xs.length : Int) - 1)) = true := by
    show (decide (0 ≤ (xs.length : Int) - 1) && decide ((xs.length : Int) - 1 < (xs.length : Int))) = true
    rw [decide_eq_true (by omega), decide_eq_true (by omega)]
    rfl
  have f2 : ∀ r, AL 12 r → isRd n r = false → m_law_refused [machV n xs ys, .int 0, .int ((xs.length : Int) - 1), r, .bl false] = .ok (.bl true) := fun r ha hr => ref_led rfl lt1 (by omega) ha hr
  have f3 : ∀ r, AL 12 r → isRd n r = false → m_law_refused [machV n xs ys, .int 1, .int 0, r, .bl false] = .ok (.bl true) := fun r ha hr => ref_bits (by omega) ha hr
  -- words
  have hw := lrep0 n (by omega)
  obtain ⟨at2, hat2, hae2⟩ := mod_nat d5 (n := n) (by omega)
  have e72 : omod (.int d5) (nD n) = .ok (.int (at2 : Int)) := by
    unfold nD
    rw [omod_ii (by omega), hae2]
  have sw : oshl (.int 1) (.int (ls.length : Int)) = .ok (.int ((2 ^ ls.length : Nat) : Int)) := shl1 ls.length (by omega)
  obtain ⟨bw, hbw, qw⟩ := oidx_mem (xs := badB (2 ^ ls.length) d3) b2.1 (by simp [badB]; omega)
  obtain ⟨_, w2⟩ := badB_in b3 bw hbw
  have w1 := badW_in b3 bw hbw
  have hrl : (List.replicate n (D.int 0)).length = n := by simp
  have x1 : wordsD n ls.length (.lst ((List.replicate n (D.int 0)).set at2 bw)) = false := wordsD_bad (b := bw) rfl (by
    rw [List.mem_iff_getElem]
    exact ⟨at2, by simp [hat2], by simp⟩) w1
  have x2 : AL 12 (.lst ((List.replicate n (D.int 0)).set at2 bw)) := AL_l (by simp; omega) fun x hx => by
    rcases List.mem_or_eq_of_mem_set hx with h | h
    · exact AL_rep 10 n x h
    · rw [h]
      exact w2
  obtain ⟨bv, hbv, qv⟩ := oidx_mem (xs := badV n) (i := d2 % 5) (by omega) (by simp [badV]; omega)
  obtain ⟨v1, v2⟩ := badV_in (w := ls.length) h1 h3 bv hbv
  have k3 : oadd (.lst (List.replicate n (.int 0))) (.lst [.int 0]) = .ok (.lst (List.replicate n (.int 0) ++ [.int 0])) := oadd_ll (le_sz (by simp; omega))
  have k4 : oslc (.lst (List.replicate n (.int 0))) (some 1) none = .ok (.lst (cut (List.replicate n (.int 0)) (some 1) none)) := rfl
  obtain ⟨wn, hwn, qn⟩ := oidx_mem (xs := badN) (i := d1 % 8) (by omega) (by simp [badN]; omega)
  obtain ⟨n1, n2⟩ := badN_in wn hwn
  have f4 : ∀ r, m_law_refused [machV n xs ys, .int 2, wn, r, .bl true] = .ok (.bl true) := fun r => ref_width n2 n1
  have f5 : ∀ r, AL 12 r → wordsD n ls.length r = false → m_law_refused [machV n xs ys, .int 2, .int (ls.length : Int), r, .bl false] = .ok (.bl true) := fun r ha hr => ref_words ha hr
  -- the longer and shorter ones
  obtain ⟨g1, g2⟩ := badV_in (w := ls.length) h1 h3 (.lst (List.replicate n (.int 0) ++ [.int 0])) List.mem_cons_self
  have cl := cut1_len h1 (D.int 0)
  have g3 : wordsD n ls.length (.lst (cut (List.replicate n (.int 0)) (some 1) none)) = false := wordsD_len (xs := cut (List.replicate n (.int 0)) (some 1) none) rfl (by omega)
  have g4 : AL 12 (.lst (cut (List.replicate n (.int 0)) (some 1) none)) := AL_l (by omega) (AL_c (AL_rep 10 n))
  obtain ⟨E1, E2, p1, p2, p3, p4⟩ := cut_none (List.replicate n (D.int 0)) (k := at2) (by simp [hat2])
  have k5 : oslc (.lst (List.replicate n (.int 0))) none (some (at2 : Int)) = .ok (.lst E1) := by rw [oslc_l, p1]
  have k6 : oslc (.lst (List.replicate n (.int 0))) (some ((at2 : Int) + 1)) none = .ok (.lst E2) := by rw [oslc_l, p3]
  have j3 : oadd (.lst E1) (.lst [.int ((2 ^ ls.length : Nat) : Int)]) = .ok (.lst (E1 ++ [.int ((2 ^ ls.length : Nat) : Int)])) := oadd_ll (le_sz (by simp only [List.length_singleton]; omega))
  have j4 : oadd (.lst (E1 ++ [.int ((2 ^ ls.length : Nat) : Int)])) (.lst E2) = .ok (.lst ((E1 ++ [.int ((2 ^ ls.length : Nat) : Int)]) ++ E2)) := oadd_ll (le_sz (by simp only [List.length_append, List.length_singleton]; omega))
  have g5 : wordsD n ls.length (.lst ((E1 ++ [.int ((2 ^ ls.length : Nat) : Int)]) ++ E2)) = false := wordsD_bad (b := .int ((2 ^ ls.length : Nat) : Int)) rfl (by simp) (big_word (by rw [Int.natAbs_natCast]; exact Nat.le_refl _))
  have g6 : AL 12 (.lst ((E1 ++ [.int ((2 ^ ls.length : Nat) : Int)]) ++ E2)) := AL_l (by simp only [List.length_append, List.length_singleton]; omega) (AL_a (AL_a (by rw [← p1]; exact AL_c (AL_rep 10 n)) (AL_1 trivial)) (by rw [← p3]; exact AL_c (AL_rep 10 n)))
  -- the last call
  have z1 : m_Machine_led [machV n xs ys, .int ((xs.length : Int) - 1), .tup []] = .ok (.int ((xs.length : Int) - 1)) := led_none rfl lt1 (by omega)
  have z2 : m_law_integer [.int ((xs.length : Int) - 1), .int ((xs.length : Int) - 1)] = .ok (.bl true) := by
    rw [hS1]
    exact integer_ok (xs.length - 1)
  have zm := fun e (he : e[0]? = some (some (machV n xs ys))) => callM_v (n := n) (xs := xs) (ys := ys) (m := "led") (f := m_Machine_led) (a := var 0) (am := argC (bin osub (var 1) (cst (.int 1))) (argC (tupE argN) argN)) (e := e) (by unfold var; rw [he])
  unfold badS at q6
  unfold badB at q8 qw
  unfold badR at q9
  unfold badV at qv
  unfold badN at qn
  have o30 := opow30
  clear hst hbad hbr hbw hbv hwn s1 s2 t1 t2 hlr b1 b2 b3 h1 h3 hx hl hl2 hae hae2 w1 w2 n1 n2 hlm cl lt1 hS1 c1 c2 c3 c4 p1 p2 p3 p4 hrl hat
  have hset : at2 < (List.replicate n (D.int 0)).length := by simp [hat2]
  generalize D.tup ((C1 ++ [bad]) ++ C2) = RD at *
  generalize D.tup (C1 ++ [bad]) = RD1 at *
  generalize hE3 : D.lst ((E1 ++ [.int ((2 ^ ls.length : Nat) : Int)]) ++ E2) = V4 at *
  generalize hE4 : D.lst (E1 ++ [.int ((2 ^ ls.length : Nat) : Int)]) = V5 at *
  generalize hV3 : cut (List.replicate n (D.int 0)) (some 1) none = V3 at *
  generalize hV2 : List.replicate n (D.int 0) ++ [.int 0] = V2 at *
  generalize hV1 : (List.replicate n (D.int 0)).set at2 bw = V1 at *
  have hset2 : (List.replicate n (D.int 0)).set at2 bw = V1 := hV1
  clear hE3 hE4 hV3 hV2 hV1
  generalize List.replicate n (D.int 0) = Z0 at *
  generalize ((2 ^ ls.length : Nat) : Int) = PW at *
  generalize ((2 ^ n : Nat) : Int) = PN at *
  generalize (ls.length : Int) = LL at *
  generalize ls.map nD = LS at *
  generalize hSL : nD xs.length = SL at *
  have hSI : SL = .int (xs.length : Int) := hSL.symm
  clear hSL
  subst hSI
  generalize (xs.length : Int) = XL at *
  generalize machV n xs ys = M at *
  generalize nD n = N at *
  generalize (at_ : Int) = A1 at *
  generalize hA2 : (at2 : Int) = A2 at *
  generalize L8 d0 d1 d2 d3 d4 d5 d6 d7 = L at *
  unfold m_law_calls_refused
  rw [fn4]
  unfold b__law_calls_refused
  refine (congrArg done ((asg_pass (d := N) ?_).trans ?_)).trans (done_ret (.bl true))
  · simp [var, m1]
  refine (asg_pass (d := .int PN) ?_).trans ?_
  · simp [var, sh]
  refine (asg_pass (d := st) ?_).trans ?_
  · simp [var, i1, i3, o30, q6]
  refine (asg_pass (d := .int A1) ?_).trans ?_
  · simp [var, i6, ll, e7]
  refine (asg_pass (d := bad) ?_).trans ?_
  · simp [var, i2, i3, q8]
  refine (asg_pass (d := RD) ?_).trans ?_
  · simp [var, slc_eq, bnd_none, bnd_some, k1, k2, j1, j2]
  have hrd : ∃ rd, isRd n rd = false ∧ AL 12 rd ∧ ∀ (r : SM), seq (Py.ite (tst (bin oeq (bin oidx (var 3) (cst (.int 0))) (cst (.int 0)))) (asg (gnm 9) (bin oidx (lstE (argC (un blist (var 2)) (argC (cst .non) (argC (cst (.int 0)) (argC (cst (.str "01")) (argC (tupE (argC (un btuple (var 2)) (argC (cst (.int 0)) argN))) argN)))))) (bin omod (bin oidx (var 3) (cst (.int 2))) (cst (.int 5))))) skip) r [some M, some (.int XL), some (.lst LS), some L, some N, some (.int PN), some st, some (.int A1), some bad, some RD, none, none, none, none, none] = r [some M, some (.int XL), some (.lst LS), some L, some N, some (.int PN), some st, some (.int A1), some bad, some rd, none, none, none, none, none] := by
    by_cases h0 : d0 = 0
    · subst h0
      refine ⟨br, u1, u2, fun r => ite_in (by simp [var, i0]) ?_⟩
      simp [var, i2, mod5, q9]
    · refine ⟨RD, hr0, ar0, fun r => chk_pass ?_⟩
      simp [var, i0, h0]
  obtain ⟨rd, r1, r2, hrd⟩ := hrd
  refine (hrd _).trans ?_
  have f2' := f2 rd r2 r1
  have f3' := f3 rd r2 r1
  refine (chk_pass ?_).trans ?_
  · simp [var, f1]
  refine (chk_pass ?_).trans ?_
  · simp [var, f2', f3']
  refine (asg_pass (d := .int LL) ?_).trans ?_
  · simp [var, ll]
  refine (asg_pass (d := .lst Z0) ?_).trans ?_
  · simp [var, hw]
  refine (asg_pass (d := .int A2) ?_).trans ?_
  · simp [var, i5, e72]
  refine (asg_pass (d := .lst Z0) ?_).trans ?_
  · simp [var]
  refine (seq_next (setL_ok (xs := Z0) (d := bw) (k := at2) ?_ ?_ ?_ hset)).trans ?_
  · simp [var]
  · simp [var, i2, i3, sw, qw]
  · simp [var, hA2]
  rw [hset2]
  have hsp : ∃ sp, wordsD n ls.length sp = false ∧ AL 12 sp ∧ ∀ (r : SM), seq (Py.ite (tst (bin oeq (bin oidx (var 3) (cst (.int 0))) (cst (.int 1)))) (asg (gnm 12) (bin oidx (lstE (argC (bin oadd (var 11) (lstE (argC (cst (.int 0)) argN))) (argC (un btuple (slc (var 11) (some (cst (.int 1))) none)) (argC (cst .non) (argC (cst (.int 0)) (argC (cst (.str "0")) argN)))))) (bin omod (bin oidx (var 3) (cst (.int 2))) (cst (.int 5))))) skip) r [some M, some (.int XL), some (.lst LS), some L, some N, some (.int PN), some st, some (.int A2), some bad, some rd, some (.int LL), some (.lst Z0), some (.lst V1), none, none] = r [some M, some (.int XL), some (.lst LS), some L, some N, some (.int PN), some st, some (.int A2), some bad, some rd, some (.int LL), some (.lst Z0), some sp, none, none] := by
    by_cases h0 : d0 = 1
    · subst h0
      refine ⟨bv, v1, v2, fun r => ite_in (by simp [var, i0]) ?_⟩
      simp [var, i2, mod5, slc_eq, bnd_none, bnd_some, k3, k4, qv]
    · refine ⟨.lst V1, x1, x2, fun r => chk_pass ?_⟩
      simp [var, i0, h0]
  obtain ⟨sp, r3, r4, hsp⟩ := hsp
  refine (hsp _).trans ?_
  refine (asg_pass (d := wn) ?_).trans ?_
  · simp [var, i1, mod8, o30, qn]
  refine (chk_pass ?_).trans ?_
  · simp [var, f4]
  obtain ⟨o', hlp⟩ := words_loop (M := M) (W := .int LL) (vs := [sp, .lst V2, .lst V3, V4]) (by
    intro v hv
    simp only [List.mem_cons, List.not_mem_nil, or_false] at hv
    rcases hv with rfl | rfl | rfl | rfl
    · exact f5 _ r4 r3
    · exact f5 _ g2 g1
    · exact f5 _ g4 g3
    · exact f5 _ g6 g5) (some (.int XL)) (some (.lst LS)) (some L) (some N) (some (.int PN)) (some st) (some (.int A2)) (some bad) (some rd) (some (.lst Z0)) (some sp) (some wn) none
  refine (for_pass (xs := [sp, .lst V2, .lst V3, V4]) ?_ hlp).trans ?_
  · simp [var, slc_eq, bnd_none, bnd_some, k3, k4, k5, k6, j3, j4, sw]
  rw [ret_eq, call_eq, argC_eq, zm _ rfl]
  simp [var, z1, z2]
end Py.U
namespace Py.U
open PySem
theorem drawn7 {ds : List Int} {a b c d e f g : Int} (H : Drawn ds [a, b, c, d, e, f, g]) : ∃ x0 x1 x2 x3 x4 x5 x6, ds = [x0, x1, x2, x3, x4, x5, x6] ∧ (0 ≤ x0 ∧ x0 < a) ∧ (0 ≤ x1 ∧ x1 < b) ∧ (0 ≤ x4 ∧ x4 < e) ∧ (0 ≤ x5 ∧ x5 < f) ∧ (0 ≤ x6 ∧ x6 < g) := by
  match ds, H with
  | [x0, x1, x2, x3, x4, x5, x6], ⟨h0, h1, _, _, h4, h5, h6, _⟩ => exact ⟨x0, x1, x2, x3, x4, x5, x6, rfl, h0, h1, h4, h5, h6⟩
theorem drawn8b {ds : List Int} {a b c d e f g h : Int} (H : Drawn ds [a, b, c, d, e, f, g, h]) : ∃ x0 x1 x2 x3 x4 x5 x6 x7, ds = [x0, x1, x2, x3, x4, x5, x6, x7] ∧ (0 ≤ x1 ∧ x1 < b) ∧ (0 ≤ x2 ∧ x2 < c) ∧ (0 ≤ x3 ∧ x3 < d) ∧ (0 ≤ x4 ∧ x4 < e) ∧ (0 ≤ x6 ∧ x6 < g) ∧ (0 ≤ x7 ∧ x7 < h) := by
  match ds, H with
  | [x0, x1, x2, x3, x4, x5, x6, x7], ⟨_, h1, h2, h3, h4, _, h6, h7, _⟩ => exact ⟨x0, x1, x2, x3, x4, x5, x6, x7, rfl, h1, h2, h3, h4, h6, h7⟩
theorem firstF_all {p : Nat → Bool} : ∀ {m k : Nat}, (∀ i, k ≤ i → i < k + m → p i = true) → firstF p k m = none
  | 0, _, _ => rfl
  | m + 1, k, h => by
    unfold firstF
    rw [h k (Nat.le_refl _) (by omega)]
    exact firstF_all fun i h1 h2 => h i (by omega) (by omega)
theorem nD_below {t x : Nat} (h : x < t) : belowD t (nD x) = true := by
  show (decide (0 ≤ (x : Int)) && decide ((x : Int) < (t : Int))) = true
  rw [decide_eq_true (by omega), decide_eq_true (by omega)]
  rfl
theorem tab_ok {S L B : Nat} {t : List (List Nat)} (h : Tab S L B t) {m : Nat} (hm : m ≤ S) : firstF (okAt L B (t.map rD)) 0 m = none := firstF_all fun i _ hi => by
  obtain ⟨r, e1, _, e3, e4⟩ := h.get (i := i) (by omega)
  unfold okAt
  rw [List.getD_eq_getElem?_getD, List.getElem?_map, e1]
  show lineok L B (.tup (r.map nD)) = true
  show (decide ((r.map nD).length = L) && (r.map nD).all (belowD B)) = true
  rw [List.length_map, e3, decide_eq_true rfl, Bool.true_and, List.all_eq_true]
  intro x hx
  obtain ⟨y, hy, rfl⟩ := List.mem_map.mp hx
  exact nD_below (e4 y hy)
theorem tab_line {S L B : Nat} {t : List (List Nat)} (h : Tab S L B t) : ∀ x ∈ t.map rD, LnV L x := fun x hx => by
  obtain ⟨r, hr, rfl⟩ := List.mem_map.mp hx
  obtain ⟨e3, _⟩ := h.row r hr
  exact LnV.tup (xs := r.map nD) (fun z hz => by
    obtain ⟨y, _, rfl⟩ := List.mem_map.mp hz
    rfl) (by rw [List.length_map]; omega)
theorem tab_at {S L B : Nat} {t : List (List Nat)} (h : Tab S L B t) {i : Nat} (hi : i < S) : ∃ r : List Nat, r.length = L ∧ (t.map rD)[i]? = some (.tup (r.map nD)) := by
  obtain ⟨r, e1, _, e3, _⟩ := h.get hi
  exact ⟨r, e3, by rw [List.getElem?_map, e1]; rfl⟩
theorem made_tab {n S : Nat} {t u : List (List Nat)} (n1 : 1 ≤ n) (n3 : n ≤ 3) (s1 : 1 ≤ S) (s6 : S ≤ 6) (ht : Tab S (2 ^ n) S t) (hu : Tab S (2 ^ n) 2 u) (h8 : 2 ^ n ≤ 8) :
    m_Machine [nD n, .lst (t.map rD), .lst (u.map rD)] = .ok (machV n (t.map rD) (u.map rD)) := by
  have lt : (t.map rD).length = S := by rw [List.length_map, ht.len]
  have lu : (u.map rD).length = S := by rw [List.length_map, hu.len]
  have q := mach_any (n := n) (x := .lst (t.map rD)) (y := .lst (u.map rD)) n1 n3 (.lst (by omega) fun x hx => (tab_line ht x hx).mono (by omega)) (.lst (by omega) fun x hx => (tab_line hu x hx).mono (by omega))
  have f : fault n (.lst (t.map rD)) (.lst (u.map rD)) = none := by
    unfold fault mems
    dsimp only
    have ne : (t.map rD).isEmpty = false := by
      cases hh : t.map rD with
      | nil => rw [hh] at lt; simp at lt; omega
      | cons a b => rfl
    have f1 := tab_ok ht (m := S) (Nat.le_refl _)
    have f2 := tab_ok hu (m := S) (Nat.le_refl _)
    rw [ne, lt, lu, f1, Nat.min_self, f2]
    simp
  rw [f] at q
  exact q
/-- one entry exchanged -/
theorem over_line {r : List Nat} {L k : Nat} {z : Int} (hL : r.length = L) (hk : k < L) (h8 : L ≤ 8) :
    ∃ v, oslc (.tup (r.map nD)) none (some (k : Int)) = .ok (.tup (cut (r.map nD) none (some (k : Int)))) ∧ oadd (.tup (cut (r.map nD) none (some (k : Int)))) (.tup [.int z]) = .ok (.tup (cut (r.map nD) none (some (k : Int)) ++ [.int z])) ∧
      oslc (.tup (r.map nD)) (some ((k : Int) + 1)) none = .ok (.tup (cut (r.map nD) (some ((k : Int) + 1)) none)) ∧ oadd (.tup (cut (r.map nD) none (some (k : Int)) ++ [.int z])) (.tup (cut (r.map nD) (some ((k : Int) + 1)) none)) = .ok v ∧ LnV 1000 v := by
  have l1 := cut_len (xs := r.map nD) (lo := none) (hi := some (k : Int))
  have l2 := cut_len (xs := r.map nD) (lo := some ((k : Int) + 1)) (hi := none)
  rw [List.length_map] at l1 l2
  have g0 : ∀ x ∈ r.map nD, gd x = true := fun x hx => by
    obtain ⟨y, _, rfl⟩ := List.mem_map.mp hx
    rfl
  refine ⟨.tup ((cut (r.map nD) none (some (k : Int)) ++ [.int z]) ++ cut (r.map nD) (some ((k : Int) + 1)) none), rfl, oadd_tt (le_sz (by simp only [List.length_singleton]; omega)), rfl, oadd_tt (le_sz (by simp only [List.length_append, List.length_singleton]; omega)), ?_⟩
  exact LnV.tup (gd_app (gd_app (gd_cut g0) (gd_1 rfl)) (gd_cut g0)) (by simp only [List.length_append, List.length_singleton]; omega)
theorem over_tab {ms : List D} {v : D} {k : Nat} (hl : ms.length ≤ 6) (hm : ∀ x ∈ ms, LnV 8 x) (hv : LnV 1000 v) :
    ∃ w, oslc (.lst ms) none (some (k : Int)) = .ok (.lst (cut ms none (some (k : Int)))) ∧ oadd (.lst (cut ms none (some (k : Int)))) (.lst [v]) = .ok (.lst (cut ms none (some (k : Int)) ++ [v])) ∧
      oslc (.lst ms) (some ((k : Int) + 1)) none = .ok (.lst (cut ms (some ((k : Int) + 1)) none)) ∧ oadd (.lst (cut ms none (some (k : Int)) ++ [v])) (.lst (cut ms (some ((k : Int) + 1)) none)) = .ok w ∧ TbV w := by
  have l1 := cut_len (xs := ms) (lo := none) (hi := some (k : Int))
  have l2 := cut_len (xs := ms) (lo := some ((k : Int) + 1)) (hi := none)
  refine ⟨.lst ((cut ms none (some (k : Int)) ++ [v]) ++ cut ms (some ((k : Int) + 1)) none), rfl, oadd_ll (le_sz (by simp only [List.length_singleton]; omega)), rfl, oadd_ll (le_sz (by simp only [List.length_append, List.length_singleton]; omega)), ?_⟩
  refine .lst (by simp only [List.length_append, List.length_singleton]; omega) fun x hx => ?_
  rcases List.mem_append.mp hx with h | h
  · rcases List.mem_append.mp h with h | h
    · exact (hm x (cut_mem h)).mono (by decide)
    · rw [List.mem_singleton.mp h]
      exact hv
  · exact (hm x (cut_mem h)).mono (by decide)
theorem tup_of {v L : D} {d3 : Int} {e : Env} (r : SM) (h : TbV v) (h7 : e[7]? = some (some v)) (h1 : e[1]? = some (some L)) (h3 : oidx L (.int 3) = .ok (.int d3)) : ∃ w', TbV w' ∧ seq (Py.ite (andT (tst (un (oisi CS [.lst]) (var 7))) (tst (bin oeq (bin omod (bin oidx (var 1) (cst (.int 3))) (cst (.int 2))) (cst (.int 0))))) (asg (gnm 7) (un btuple (var 7))) skip) r e = r (e.set 7 (some w')) := by
  have e2 := isi_any (ts := [.lst]) h.top rfl
  have hm2 := omod_ii (i := d3) (j := 2) (by decide)
  have same : e = e.set 7 (some v) := by
    apply List.ext_getElem?
    intro i
    rw [List.getElem?_set]
    split
    · rename_i hi
      subst hi
      rw [h7]
      split
      · rfl
      · rename_i hlt
        rw [List.getElem?_eq_none (by omega)] at h7
        cases h7
    · rfl
  cases v with
  | lst xs =>
    have e2' : oisi CS [.lst] (.lst xs) = .ok (.bl true) := rfl
    by_cases hd : d3 % 2 = 0
    · obtain ⟨ha, hb⟩ := h.mem xs rfl
      refine ⟨.tup xs, .tup ha hb, ite_in ?_ ?_⟩
      · simp [var, h7, h1, h3, e2', hm2, hd]
      · simp [var, h7]
    · refine ⟨.lst xs, h, ?_⟩
      rw [← same]
      refine chk_pass ?_
      simp [var, h7, h1, h3, e2', hm2, hd]
  | _ =>
    refine ⟨_, h, ?_⟩
    rw [← same]
    refine chk_pass ?_
    simp [var, h7, e2, isI]
end Py.U
namespace Py.U
open PySem
theorem holds_ok (ns : List Int) : m_law_holds [.lst (ns.map .int)] = .ok (.bl true) := by
  obtain ⟨c0, hc0⟩ := cell_ok ns 0
  obtain ⟨c1, hc1⟩ := cell_ok ns 1
  obtain ⟨c2, hc2⟩ := cell_ok ns 2
  obtain ⟨c3, hc3⟩ := cell_ok ns 3
  obtain ⟨c4, hc4⟩ := cell_ok ns 4
  obtain ⟨c5, hc5⟩ := cell_ok ns 5
  obtain ⟨c6, hc6⟩ := cell_ok ns 6
  obtain ⟨ds, hdr, hd⟩ := draws_ok c0 [3, 6, 8, 8, 10, 1000, 7] (by simp) (by simp)
  obtain ⟨d0, d1, d2, d3, d4, d5, d6, rfl, ⟨a0, a1⟩, ⟨b0, b1⟩, k4, k5, k6⟩ := drawn7 hdr
  obtain ⟨n, hn⟩ : ∃ n : Nat, 1 + d0 = (n : Int) := ⟨(1 + d0).toNat, by omega⟩
  obtain ⟨S, hS⟩ : ∃ S : Nat, 1 + d1 = (S : Int) := ⟨(1 + d1).toNat, by omega⟩
  obtain ⟨kl, hkl⟩ : ∃ k : Nat, 1 + d6 = (k : Int) := ⟨(1 + d6).toNat, by omega⟩
  have n1 : 1 ≤ n := by omega
  have n3 : n ≤ 3 := by omega
  have s1 : 1 ≤ S := by omega
  have s6 : S ≤ 6 := by omega
  have hP : 2 ^ n ≤ 8 := by
    have : n = 1 ∨ n = 2 ∨ n = 3 := by omega
    rcases this with rfl | rfl | rfl <;> decide
  have hP2 : 2 ≤ 2 ^ n := by
    have : n = 1 ∨ n = 2 ∨ n = 3 := by omega
    rcases this with rfl | rfl | rfl <;> decide
  obtain ⟨t, ht, htq⟩ := table_ok c1 (S := S) (L := 2 ^ n) (B := S) (by omega) (by omega) (by omega)
  obtain ⟨u, hu, huq⟩ := table_ok c2 (S := S) (L := 2 ^ n) (B := 2) (by omega) (by omega) (by omega)
  have lt : (t.map rD).length = S := by rw [List.length_map, ht.len]
  have lu : (u.map rD).length = S := by rw [List.length_map, hu.len]
  have vt : ∀ x ∈ t.map rD, LnV 8 x := fun x hx => (tab_line ht x hx).mono hP
  have vu : ∀ x ∈ u.map rD, LnV 8 x := fun x hx => (tab_line hu x hx).mono hP
  have Tt1 : TbV (.lst (t.map rD)) := .lst (by omega) fun x hx => (vt x hx).mono (by decide)
  have Tt2 : TbV (.tup (t.map rD)) := .tup (by omega) fun x hx => (vt x hx).mono (by decide)
  have Tu1 : TbV (.lst (u.map rD)) := .lst (by omega) fun x hx => (vu x hx).mono (by decide)
  have Tu2 : TbV (.tup (u.map rD)) := .tup (by omega) fun x hx => (vu x hx).mono (by decide)
  -- other tables
  obtain ⟨es, her, he⟩ := draws_ok c3 [10, 10, 8, 1000, 2, 6, 6, 8] (by simp) (by simp)
  obtain ⟨e0, e1, e2, e3, e4, e5, e6, e7, rfl, p1, p2, p3, p4, p6, p7⟩ := drawn8b her
  obtain ⟨on, hon, von⟩ := other_nexts_any (ms := t.map rD) (c := 8) (d0 := e0) (d2 := e2) (d3 := e3) (d5 := e5) (d6 := e6) (d7 := e7) p1 p4 (by omega) (by omega) (by decide) vt
  obtain ⟨fs, hfr, hf⟩ := draws_ok c4 [10, 10, 8, 1000, 2, 6, 6, 8] (by simp) (by simp)
  obtain ⟨f0, f1, f2, f3, f4, f5, f6, f7, rfl, q1, q2, q3, q4, q6, q7⟩ := drawn8b hfr
  obtain ⟨z, hz, hzq⟩ := tab_at hu (i := 0) (by omega)
  obtain ⟨oo, hoo, voo⟩ := other_outs_any (ms := u.map rD) (z := z.map nD) (c := 8) (d0 := f0) (d2 := f2) (d3 := f3) (d5 := f5) (d6 := f6) (d7 := f7) q1 q4 q6.1 q7 (by omega) (by omega) (by decide) vu hzq (by rw [List.length_map]; omega)
  obtain ⟨gs, hgr, hg⟩ := draws_ok c6 [10, 10, 8, 1000, 2, 6, 6, 8] (by simp) (by simp)
  obtain ⟨g0, g1, g2, g3, g4, g5, g6, g7, rfl, r1, r2, r3, r4, r6, r7⟩ := drawn8b hgr
  -- the members exchanged
  obtain ⟨at_, hat, hae⟩ := mod_nat d5 (n := S) (by omega)
  have hmA : omod (.int d5) (.int (S : Int)) = .ok (.int (at_ : Int)) := by rw [omod_ii (by omega), hae]
  obtain ⟨x, hx, hxq⟩ := tab_at ht hat
  obtain ⟨y, hy, hyq⟩ := tab_at hu hat
  have hxA : oidx (.lst (t.map rD)) (.int (at_ : Int)) = .ok (.tup (x.map nD)) := oidx_l hxq
  have hyA : oidx (.lst (u.map rD)) (.int (at_ : Int)) = .ok (.tup (y.map nD)) := oidx_l hyq
  obtain ⟨le, hle, hlee⟩ := mod_nat d6 (n := 2 ^ n) (by omega)
  have hlx : blen (.tup (x.map nD)) = .ok (.int ((2 ^ n : Nat) : Int)) := by rw [blen_t, List.length_map, hx]
  have hmL : omod (.int d6) (.int ((2 ^ n : Nat) : Int)) = .ok (.int (le : Int)) := by rw [omod_ii (by omega), hlee]
  obtain ⟨xv, w1, w2, w3, w4, w5⟩ := over_line (z := (S : Int)) hx hle hP
  obtain ⟨yv, w6, w7, w8, w9, w10⟩ := over_line (z := (2 : Int)) hy hle hP
  obtain ⟨xt, v1, v2, v3, v4, v5⟩ := over_tab (k := at_) (v := xv) (by omega) vt w5
  obtain ⟨yt, v6, v7, v8, v9, v10⟩ := over_tab (k := at_) (v := yv) (by omega) vu w10
  -- the machine
  have hM := made_tab n1 n3 s1 s6 ht hu hP
  obtain ⟨ls, hls, hll, hlt⟩ := low_draws c5 (w := 2 ^ n) (k := kl) ⟨by omega, by omega⟩ (by omega)
  have hC := calls_ok (n := n) (xs := t.map rD) (ys := u.map rD) (ls := ls) (d0 := g0) (d4 := g4) (d5 := g5) (d6 := g6) (d7 := g7) n1 n3 (by omega) (by omega) (by omega) r1 r2 r3.1
  rw [lt] at hC
  have m1 := made_rightly (i := nD n) rfl Tt1 Tu2
  have m2 := made_rightly (i := nD n) rfl Tt2 Tu1
  have m3 := made_rightly (i := nD n) rfl v5 Tu1
  have m4 := made_rightly (i := nD n) rfl Tt1 v10
  have sh := shl_nD (n := n) (by omega)
  have eN : oadd (.int 1) (.int d0) = .ok (nD n) := by
    rw [oadd_ii, hn]
    rfl
  have eS : oadd (.int 1) (.int d1) = .ok (.int (S : Int)) := by rw [oadd_ii, hS]
  have eK : oadd (.int 1) (.int d6) = .ok (.int (kl : Int)) := by rw [oadd_ii, hkl]
  have hrep1 := rep_one ((2 ^ n : Nat) : Int) kl (by omega)
  have hP' : nD (2 ^ n) = .int ((2 ^ n : Nat) : Int) := rfl
  have hS' : nD S = .int (S : Int) := rfl
  rw [hP'] at sh htq huq
  rw [hS'] at htq huq hC
  change m_law_table [_, _, _, .int 2] = _ at huq
  have hc0' : m_law_cell [.lst (ns.map .int), .int 0] = .ok (.int c0) := hc0
  have hc1' : m_law_cell [.lst (ns.map .int), .int 1] = .ok (.int c1) := hc1
  have hc2' : m_law_cell [.lst (ns.map .int), .int 2] = .ok (.int c2) := hc2
  have hc3' : m_law_cell [.lst (ns.map .int), .int 3] = .ok (.int c3) := hc3
  have hc4' : m_law_cell [.lst (ns.map .int), .int 4] = .ok (.int c4) := hc4
  have hc5' : m_law_cell [.lst (ns.map .int), .int 5] = .ok (.int c5) := hc5
  have hc6' : m_law_cell [.lst (ns.map .int), .int 6] = .ok (.int c6) := hc6
  simp only [List.map_cons, List.map_nil] at hd he hf hg
  generalize hDD : D.lst [.int d0, .int d1, .int d2, .int d3, .int d4, .int d5, .int d6] = DD at *
  have i0 : oidx DD (.int 0) = .ok (.int d0) := by subst hDD; rfl
  have i1 : oidx DD (.int 1) = .ok (.int d1) := by subst hDD; rfl
  have i2 : oidx DD (.int 2) = .ok (.int d2) := by subst hDD; rfl
  have i3 : oidx DD (.int 3) = .ok (.int d3) := by subst hDD; rfl
  have i4 : oidx DD (.int 4) = .ok (.int d4) := by subst hDD; rfl
  have i5 : oidx DD (.int 5) = .ok (.int d5) := by subst hDD; rfl
  have i6 : oidx DD (.int 6) = .ok (.int d6) := by subst hDD; rfl
  generalize hZZ : D.lst [.int 10, .int 10, .int 8, .int 1000, .int 2, .int 6, .int 6, .int 8] = ZZ at *
  have bt : btuple (.lst (t.map rD)) = .ok (.tup (t.map rD)) := rfl
  have bu : btuple (.lst (u.map rD)) = .ok (.tup (u.map rD)) := rfl
  have lt' : blist (.lst (t.map rD)) = .ok (.lst (t.map rD)) := rfl
  have lu' : blist (.lst (u.map rD)) = .ok (.lst (u.map rD)) := rfl
  clear hdr her hfr hgr hDD
  generalize machV n (t.map rD) (u.map rD) = MA at *
  generalize D.lst (ns.map .int) = SC at *
  generalize D.lst (ls.map nD) = LS at *
  generalize D.lst (t.map rD) = T1 at *
  generalize D.tup (t.map rD) = T2 at *
  generalize D.lst (u.map rD) = U1 at *
  generalize D.tup (u.map rD) = U2 at *
  generalize D.tup (x.map nD) = X at *
  generalize D.tup (y.map nD) = Y at *
  generalize D.lst ((List.replicate kl ((2 ^ n : Nat) : Int)).map .int) = RP at *
  generalize ((2 ^ n : Nat) : Int) = PP at *
  generalize (S : Int) = SS at *
  generalize (kl : Int) = KL at *
  generalize (at_ : Int) = AT at *
  generalize (le : Int) = LE at *
  have gN : gd (nD n) = true := rfl
  have hIN : ∃ z : Int, nD n = .int z := ⟨_, rfl⟩
  generalize nD n = N at *
  unfold m_law_holds
  rw [fn1]
  unfold b__law_holds
  refine (congrArg done (?_ : _ = Res.ok (Fl.ret (.bl true)))).trans rfl
  simp only [List.replicate]
  refine (asg_pass (d := DD) ?_).trans ?_
  · simp [var, hc0', hd]
  refine (asg_pass (d := N) ?_).trans ?_
  · simp [var, i0, eN]
  refine (asg_pass (d := .int SS) ?_).trans ?_
  · simp [var, i1, eS]
  refine (asg_pass (d := T1) ?_).trans ?_
  · simp [var, hc1', sh, htq]
  refine (asg_pass (d := U1) ?_).trans ?_
  · simp [var, hc2', sh, huq]
  refine (chk_pass ?_).trans ?_
  · simp [var, lt', bu, m1]
  refine (asg_pass (d := ZZ) ?_).trans ?_
  · simp [var, hZZ]
  refine (asg_pass (d := T1) ?_).trans ?_
  · simp [var]
  refine (asg_pass (d := U2) ?_).trans ?_
  · simp [var, bu]
  refine (asg_pass (d := N) ?_).trans ?_
  · simp [var]
  simp only [List.set_cons_succ, List.set_cons_zero]
  have hm22 := omod_ii (i := d2) (j := 2) (by decide)
  have hm32 := omod_ii (i := d3) (j := 2) (by decide)
  have hd22 := ofdiv_ii (i := d2) (j := 2) (by decide)
  have hm222 := omod_ii (i := d2 / 2) (j := 2) (by decide)
  have sA : ∀ r : SM, ∃ v, TbV v ∧ seq (Py.ite (tst (bin oeq (bin omod (bin oidx (var 1) (cst (.int 2))) (cst (.int 2))) (cst (.int 1)))) (asg (gnm 7) (call m_law_other_nexts (argC (var 4) (argC (call m_law_draws (argC (call m_law_cell (argC (var 0) (argC (cst (.int 3)) argN))) (argC (var 6) argN))) argN)))) skip) r [some SC, some DD, some N, some (.int SS), some T1, some U1, some ZZ, some T1, some U2, some N, none, none, none, none, none, none] = r [some SC, some DD, some N, some (.int SS), some T1, some U1, some ZZ, some v, some U2, some N, none, none, none, none, none, none] := fun r => by
    by_cases c : d2 % 2 = 1
    · exact ⟨on, von, ite_in (by simp [var, i2, hm22, c]) (by simp [var, hc3', he, hon])⟩
    · exact ⟨T1, Tt1, chk_pass (by simp [var, i2, hm22, c])⟩
  obtain ⟨A, vA, sA'⟩ := sA _
  refine sA'.trans ?_
  have sB : ∀ r : SM, ∃ v, TbV v ∧ seq (Py.ite (tst (bin oeq (bin omod (bin ofdiv (bin oidx (var 1) (cst (.int 2))) (cst (.int 2))) (cst (.int 2))) (cst (.int 0)))) (asg (gnm 8) (call m_law_other_outs (argC (var 5) (argC (call m_law_draws (argC (call m_law_cell (argC (var 0) (argC (cst (.int 4)) argN))) (argC (var 6) argN))) argN)))) skip) r [some SC, some DD, some N, some (.int SS), some T1, some U1, some ZZ, some A, some U2, some N, none, none, none, none, none, none] = r [some SC, some DD, some N, some (.int SS), some T1, some U1, some ZZ, some A, some v, some N, none, none, none, none, none, none] := fun r => by
    by_cases c : d2 / 2 % 2 = 0
    · exact ⟨oo, voo, ite_in (by simp [var, i2, hd22, hm222, c]) (by simp [var, hc4', hf, hoo])⟩
    · exact ⟨U2, Tu2, chk_pass (by simp [var, i2, hd22, hm222, c])⟩
  obtain ⟨B, vB, sB'⟩ := sB _
  refine sB'.trans ?_
  have o30 := opow30
  obtain ⟨bi, hbi, hbq⟩ := oidx_mem (xs := [.int 0, .int 4, .int (-1), .bl true, .non, .str "1", .tup [.int 1], .int 1000000000000000000000000000000, .bl false, .lst [.int 2]]) k4.1 (by simpa using k4.2)
  have gbi : gd bi = true := by
    simp only [List.mem_cons, List.not_mem_nil, or_false] at hbi
    rcases hbi with rfl | rfl | rfl | rfl | rfl | rfl | rfl | rfl | rfl | rfl <;> rfl
  have sC : ∀ r : SM, ∃ v, gd v = true ∧ seq (Py.ite (tst (bin oeq (bin oidx (var 1) (cst (.int 3))) (cst (.int 0)))) (asg (gnm 9) (bin oidx (lstE (argC (cst (.int 0)) (argC (cst (.int 4)) (argC (un oneg (cst (.int 1))) (argC (cst (.bl true)) (argC (cst .non) (argC (cst (.str "1")) (argC (tupE (argC (cst (.int 1)) argN)) (argC (bin opow (cst (.int 10)) (cst (.int 30))) (argC (cst (.bl false)) (argC (lstE (argC (cst (.int 2)) argN)) argN))))))))))) (bin oidx (var 1) (cst (.int 4))))) skip) r [some SC, some DD, some N, some (.int SS), some T1, some U1, some ZZ, some A, some B, some N, none, none, none, none, none, none] = r [some SC, some DD, some N, some (.int SS), some T1, some U1, some ZZ, some A, some B, some v, none, none, none, none, none, none] := fun r => by
    by_cases c : d3 = 0
    · exact ⟨bi, gbi, ite_in (by simp [var, i3, c]) (by simp [var, i4, o30, hbq])⟩
    · exact ⟨N, gN, chk_pass (by simp [var, i3, c])⟩
  obtain ⟨C, vC, sC'⟩ := sC _
  refine sC'.trans ?_
  have hm3 := fun z : Int => omod_ii (i := z) (j := 3) (by decide)
  have sD : ∀ r : SM, ∃ v, gd v = true ∧ seq (Py.ite (tst (bin oeq (bin oidx (var 1) (cst (.int 3))) (cst (.int 1)))) (asg (gnm 9) (bin oadd (cst (.int 1)) (bin omod (bin oadd (var 2) (bin oidx (var 1) (cst (.int 5)))) (cst (.int 3))))) skip) r [some SC, some DD, some N, some (.int SS), some T1, some U1, some ZZ, some A, some B, some C, none, none, none, none, none, none] = r [some SC, some DD, some N, some (.int SS), some T1, some U1, some ZZ, some A, some B, some v, none, none, none, none, none, none] := fun r => by
    by_cases c : d3 = 1
    · obtain ⟨z, rfl⟩ := hIN
      exact ⟨.int (1 + (z + d5) % 3), rfl, ite_in (by simp [var, i3, c]) (by simp [var, i5, hm3])⟩
    · exact ⟨C, vC, chk_pass (by simp [var, i3, c])⟩
  obtain ⟨C2, vC2, sD'⟩ := sD _
  refine sD'.trans ?_
  obtain ⟨A2, vA2, sE'⟩ := tup_of _ (e := [some SC, some DD, some N, some (.int SS), some T1, some U1, some ZZ, some A, some B, some C2, none, none, none, none, none, none]) vA rfl rfl i3
  refine sE'.trans ?_
  simp only [List.set_cons_succ, List.set_cons_zero]
  have m5 := made_rightly vC2 vA2 vB
  refine (chk_pass ?_).trans ?_
  · simp [var, m5]
  refine (chk_pass ?_).trans ?_
  · simp [var, bt, lu', m2]
  refine (asg_pass (d := .int AT) ?_).trans ?_
  · simp [var, i5, hmA]
  refine (asg_pass (d := X) ?_).trans ?_
  · simp [var, hxA]
  refine (asg_pass (d := .int LE) ?_).trans ?_
  · simp [var, i6, hlx, hmL]
  refine (asg_pass (d := xv) ?_).trans ?_
  · simp [var, slc_eq, bnd_none, bnd_some, w1, w2, w3, w4]
  refine (chk_pass ?_).trans ?_
  · simp [var, slc_eq, bnd_none, bnd_some, v1, v2, v3, v4, m3]
  refine (asg_pass (d := Y) ?_).trans ?_
  · simp [var, hyA]
  refine (asg_pass (d := yv) ?_).trans ?_
  · simp [var, slc_eq, bnd_none, bnd_some, w6, w7, w8, w9]
  refine (chk_pass ?_).trans ?_
  · simp [var, slc_eq, bnd_none, bnd_some, v6, v7, v8, v9, m4]
  refine (asg_pass (d := MA) ?_).trans ?_
  · simp [var, hM]
  refine (asg_pass (d := LS) ?_).trans ?_
  · simp [var, hc5', sh, i6, eK, hrep1, hls]
  simp [var, hc6', hg, hC]
theorem law_true (ns : List Int) (h : ns.length ≤ 63) : m_law [.lst (ns.map .int)] = .ok (.bl true) := by
  have q := holds_ok ns
  unfold m_law
  rw [fn1]
  unfold b_law
  simp [var, q]
end Py.U
namespace Py
open PySem PySem.Spec PyProof.Rows L2
def top (i : Nat) : Stmt := PySem.Challenge.pw_onlycarries_k04_faults_of_machines.main.body.getD i (.Pass ⟨0, 0, 0, 0⟩)
abbrev st_is_integer : Stmt := top 1
abbrev sc_is_integer : Scope := defScope st_is_integer
abbrev N_is_integer : List Str := ["value"]
abbrev ow_is_integer : Ow := owS []
abbrev d_is_integer : He.DefD := ⟨("is_integer", none), "is_integer", "is_integer", defArgs st_is_integer, defBody st_is_integer, sc_is_integer, [], []⟩
abbrev st_is_inputs : Stmt := top 3
abbrev sc_is_inputs : Scope := defScope st_is_inputs
abbrev N_is_inputs : List Str := ["value"]
abbrev ow_is_inputs : Ow := owS []
abbrev d_is_inputs : He.DefD := ⟨("is_inputs", none), "is_inputs", "is_inputs", defArgs st_is_inputs, defBody st_is_inputs, sc_is_inputs, [], []⟩
abbrev st_as_tuple : Stmt := top 4
abbrev sc_as_tuple : Scope := defScope st_as_tuple
abbrev N_as_tuple : List Str := ["value"]
abbrev ow_as_tuple : Ow := owS []
abbrev d_as_tuple : He.DefD := ⟨("as_tuple", none), "as_tuple", "as_tuple", defArgs st_as_tuple, defBody st_as_tuple, sc_as_tuple, [], []⟩
abbrev st_is_below : Stmt := top 5
abbrev sc_is_below : Scope := defScope st_is_below
abbrev N_is_below : List Str := ["value", "limit"]
abbrev ow_is_below : Ow := owS []
abbrev d_is_below : He.DefD := ⟨("is_below", none), "is_below", "is_below", defArgs st_is_below, defBody st_is_below, sc_is_below, [], []⟩
abbrev st_is_line : Stmt := top 27
abbrev sc_is_line : Scope := defScope st_is_line
abbrev N_is_line : List Str := ["value", "many", "limit", "member"]
abbrev ow_is_line : Ow := owS []
abbrev d_is_line : He.DefD := ⟨("is_line", none), "is_line", "is_line", defArgs st_is_line, defBody st_is_line, sc_is_line, [], []⟩
abbrev st_right_nexts : Stmt := top 28
abbrev sc_right_nexts : Scope := defScope st_right_nexts
abbrev N_right_nexts : List Str := ["value", "letters", "lines", "state", "line"]
abbrev ow_right_nexts : Ow := owS []
abbrev d_right_nexts : He.DefD := ⟨("right_nexts", none), "right_nexts", "right_nexts", defArgs st_right_nexts, defBody st_right_nexts, sc_right_nexts, [], []⟩
abbrev st_right_outs : Stmt := top 29
abbrev sc_right_outs : Scope := defScope st_right_outs
abbrev N_right_outs : List Str := ["value", "letters", "states", "lines", "shared", "state"]
abbrev ow_right_outs : Ow := owS []
abbrev d_right_outs : He.DefD := ⟨("right_outs", none), "right_outs", "right_outs", defArgs st_right_outs, defBody st_right_outs, sc_right_outs, [], []⟩
abbrev st_Machine_init : Stmt := inClass (top 30) 0
abbrev sc_Machine_init : Scope := defScope st_Machine_init
abbrev N_Machine_init : List Str := ["self", "inputs", "nexts", "outs", "letters"]
abbrev ow_Machine_init : Ow := ⟨fun i => i == 0, none⟩
abbrev d_Machine_init : He.DefD := ⟨("Machine", some "__init__"), "__init__", "Machine.__init__", defArgs st_Machine_init, defBody st_Machine_init, sc_Machine_init, [], []⟩
abbrev st_is_reading : Stmt := top 24
abbrev sc_is_reading : Scope := defScope st_is_reading
abbrev N_is_reading : List Str := ["value", "inputs", "letter"]
abbrev ow_is_reading : Ow := owS []
abbrev d_is_reading : He.DefD := ⟨("is_reading", none), "is_reading", "is_reading", defArgs st_is_reading, defBody st_is_reading, sc_is_reading, [], []⟩
abbrev st_Machine_led : Stmt := inClass (top 30) 3
abbrev sc_Machine_led : Scope := defScope st_Machine_led
abbrev N_Machine_led : List Str := ["self", "state", "reading", "goal", "letter"]
abbrev ow_Machine_led : Ow := owS []
abbrev d_Machine_led : He.DefD := ⟨("Machine", some "led"), "led", "Machine.led", defArgs st_Machine_led, defBody st_Machine_led, sc_Machine_led, [], []⟩
abbrev st__law_integer : Stmt := top 36
abbrev sc__law_integer : Scope := defScope st__law_integer
abbrev N__law_integer : List Str := ["actual", "due"]
abbrev ow__law_integer : Ow := owS []
abbrev d__law_integer : He.DefD := ⟨("_law_integer", none), "_law_integer", "_law_integer", defArgs st__law_integer, defBody st__law_integer, sc__law_integer, [], []⟩
abbrev st__law_alike : Stmt := top 37
abbrev sc__law_alike : Scope := defScope st__law_alike
abbrev N__law_alike : List Str := ["actual", "due", "k"]
abbrev ow__law_alike : Ow := owS []
abbrev d__law_alike : He.DefD := ⟨("_law_alike", none), "_law_alike", "_law_alike", defArgs st__law_alike, defBody st__law_alike, sc__law_alike, [], []⟩
abbrev st_Machine_bits_written : Stmt := inClass (top 30) 4
abbrev sc_Machine_bits_written : Scope := defScope st_Machine_bits_written
abbrev N_Machine_bits_written : List Str := ["self", "reading", "state", "bits", "letter"]
abbrev ow_Machine_bits_written : Ow := owS []
abbrev d_Machine_bits_written : He.DefD := ⟨("Machine", some "bits_written"), "bits_written", "Machine.bits_written", defArgs st_Machine_bits_written, defBody st_Machine_bits_written, sc_Machine_bits_written, [], []⟩
abbrev st_is_number : Stmt := top 2
abbrev sc_is_number : Scope := defScope st_is_number
abbrev N_is_number : List Str := ["value"]
abbrev ow_is_number : Ow := owS []
abbrev d_is_number : He.DefD := ⟨("is_number", none), "is_number", "is_number", defArgs st_is_number, defBody st_is_number, sc_is_number, [], []⟩
abbrev st_is_word : Stmt := top 6
abbrev sc_is_word : Scope := defScope st_is_word
abbrev N_is_word : List Str := ["value", "width"]
abbrev ow_is_word : Ow := owS []
abbrev d_is_word : He.DefD := ⟨("is_word", none), "is_word", "is_word", defArgs st_is_word, defBody st_is_word, sc_is_word, [], []⟩
abbrev st_are_words : Stmt := top 7
abbrev sc_are_words : Scope := defScope st_are_words
abbrev N_are_words : List Str := ["value", "width", "least", "most", "words", "word"]
abbrev ow_are_words : Ow := owS []
abbrev d_are_words : He.DefD := ⟨("are_words", none), "are_words", "are_words", defArgs st_are_words, defBody st_are_words, sc_are_words, [], []⟩
abbrev st_letters_of : Stmt := top 25
abbrev sc_letters_of : Scope := defScope st_letters_of
abbrev N_letters_of : List Str := ["width", "words", "letters", "place", "i"]
abbrev ow_letters_of : Ow := owS []
abbrev d_letters_of : He.DefD := ⟨("letters_of", none), "letters_of", "letters_of", defArgs st_letters_of, defBody st_letters_of, sc_letters_of, [], []⟩
abbrev st_Machine_write : Stmt := inClass (top 30) 5
abbrev sc_Machine_write : Scope := defScope st_Machine_write
abbrev N_Machine_write : List Str := ["self", "width", "words", "bits", "place", "bit"]
abbrev ow_Machine_write : Ow := owS []
abbrev d_Machine_write : He.DefD := ⟨("Machine", some "write"), "write", "Machine.write", defArgs st_Machine_write, defBody st_Machine_write, sc_Machine_write, [], []⟩
abbrev st__law_called : Stmt := top 46
abbrev sc__law_called : Scope := defScope st__law_called
abbrev N__law_called : List Str := ["machine", "which", "one", "two"]
abbrev ow__law_called : Ow := owS []
abbrev d__law_called : He.DefD := ⟨("_law_called", none), "_law_called", "_law_called", defArgs st__law_called, defBody st__law_called, sc__law_called, [], []⟩
abbrev st__law_refused : Stmt := top 47
abbrev sc__law_refused : Scope := defScope st__law_refused
abbrev N__law_refused : List Str := ["machine", "which", "one", "two", "first", "e"]
abbrev ow__law_refused : Ow := owS []
abbrev d__law_refused : He.DefD := ⟨("_law_refused", none), "_law_refused", "_law_refused", defArgs st__law_refused, defBody st__law_refused, sc__law_refused, [], []⟩
abbrev st__law_calls_refused : Stmt := top 48
abbrev sc__law_calls_refused : Scope := defScope st__law_calls_refused
abbrev N__law_calls_refused : List Str := ["machine", "states", "letters", "draws", "inputs", "top", "state", "at", "bad", "reading", "width", "chosen", "spoilt", "wrong", "things"]
abbrev ow__law_calls_refused : Ow := owS []
abbrev d__law_calls_refused : He.DefD := ⟨("_law_calls_refused", none), "_law_calls_refused", "_law_calls_refused", defArgs st__law_calls_refused, defBody st__law_calls_refused, sc__law_calls_refused, [], []⟩
abbrev st__law_cell : Stmt := top 32
abbrev sc__law_cell : Scope := defScope st__law_cell
abbrev N__law_cell : List Str := ["script", "k"]
abbrev ow__law_cell : Ow := owS []
abbrev d__law_cell : He.DefD := ⟨("_law_cell", none), "_law_cell", "_law_cell", defArgs st__law_cell, defBody st__law_cell, sc__law_cell, [], []⟩
abbrev st__law_mixed : Stmt := top 33
abbrev sc__law_mixed : Scope := defScope st__law_mixed
abbrev N__law_mixed : List Str := ["cell", "k", "once", "twice"]
abbrev ow__law_mixed : Ow := owS []
abbrev d__law_mixed : He.DefD := ⟨("_law_mixed", none), "_law_mixed", "_law_mixed", defArgs st__law_mixed, defBody st__law_mixed, sc__law_mixed, [], []⟩
abbrev st__law_draws : Stmt := top 34
abbrev sc__law_draws : Scope := defScope st__law_draws
abbrev N__law_draws : List Str := ["cell", "sizes", "found", "left", "k"]
abbrev ow__law_draws : Ow := owS []
abbrev d__law_draws : He.DefD := ⟨("_law_draws", none), "_law_draws", "_law_draws", defArgs st__law_draws, defBody st__law_draws, sc__law_draws, [], []⟩
abbrev st__law_in_range : Stmt := top 38
abbrev sc__law_in_range : Scope := defScope st__law_in_range
abbrev N__law_in_range : List Str := ["thing", "low", "high"]
abbrev ow__law_in_range : Ow := owS []
abbrev d__law_in_range : He.DefD := ⟨("_law_in_range", none), "_law_in_range", "_law_in_range", defArgs st__law_in_range, defBody st__law_in_range, sc__law_in_range, [], []⟩
abbrev st__law_first_wrong : Stmt := top 39
abbrev sc__law_first_wrong : Scope := defScope st__law_first_wrong
abbrev N__law_first_wrong : List Str := ["table", "wide", "top", "k", "entry"]
abbrev ow__law_first_wrong : Ow := owS []
abbrev d__law_first_wrong : He.DefD := ⟨("_law_first_wrong", none), "_law_first_wrong", "_law_first_wrong", defArgs st__law_first_wrong, defBody st__law_first_wrong, sc__law_first_wrong, [], []⟩
abbrev st__law_fault : Stmt := top 40
abbrev sc__law_fault : Scope := defScope st__law_fault
abbrev N__law_fault : List Str := ["inputs", "nexts", "outs", "at", "low"]
abbrev ow__law_fault : Ow := owS []
abbrev d__law_fault : He.DefD := ⟨("_law_fault", none), "_law_fault", "_law_fault", defArgs st__law_fault, defBody st__law_fault, sc__law_fault, [], []⟩
abbrev st__law_made_rightly : Stmt := top 45
abbrev sc__law_made_rightly : Scope := defScope st__law_made_rightly
abbrev N__law_made_rightly : List Str := ["inputs", "nexts", "outs", "due", "machine", "e"]
abbrev ow__law_made_rightly : Ow := owS []
abbrev d__law_made_rightly : He.DefD := ⟨("_law_made_rightly", none), "_law_made_rightly", "_law_made_rightly", defArgs st__law_made_rightly, defBody st__law_made_rightly, sc__law_made_rightly, [], []⟩
abbrev st__law_spoilt_member : Stmt := top 41
abbrev sc__law_spoilt_member : Scope := defScope st__law_spoilt_member
abbrev N__law_spoilt_member : List Str := ["member", "top", "draws", "bad", "at"]
abbrev ow__law_spoilt_member : Ow := owS []
abbrev d__law_spoilt_member : He.DefD := ⟨("_law_spoilt_member", none), "_law_spoilt_member", "_law_spoilt_member", defArgs st__law_spoilt_member, defBody st__law_spoilt_member, sc__law_spoilt_member, [], []⟩
abbrev st__law_spoilt_table : Stmt := top 42
abbrev sc__law_spoilt_table : Scope := defScope st__law_spoilt_table
abbrev N__law_spoilt_table : List Str := ["table", "top", "draws", "members", "k", "at"]
abbrev ow__law_spoilt_table : Ow := owS []
abbrev d__law_spoilt_table : He.DefD := ⟨("_law_spoilt_table", none), "_law_spoilt_table", "_law_spoilt_table", defArgs st__law_spoilt_table, defBody st__law_spoilt_table, sc__law_spoilt_table, [], []⟩
abbrev st__law_other_nexts : Stmt := top 43
abbrev sc__law_other_nexts : Scope := defScope st__law_other_nexts
abbrev N__law_other_nexts : List Str := ["nexts", "draws"]
abbrev ow__law_other_nexts : Ow := owS []
abbrev d__law_other_nexts : He.DefD := ⟨("_law_other_nexts", none), "_law_other_nexts", "_law_other_nexts", defArgs st__law_other_nexts, defBody st__law_other_nexts, sc__law_other_nexts, [], []⟩
abbrev st__law_other_outs : Stmt := top 44
abbrev sc__law_other_outs : Scope := defScope st__law_other_outs
abbrev N__law_other_outs : List Str := ["outs", "draws", "members"]
abbrev ow__law_other_outs : Ow := owS []
abbrev d__law_other_outs : He.DefD := ⟨("_law_other_outs", none), "_law_other_outs", "_law_other_outs", defArgs st__law_other_outs, defBody st__law_other_outs, sc__law_other_outs, [], []⟩
abbrev st__law_table : Stmt := top 35
abbrev sc__law_table : Scope := defScope st__law_table
abbrev N__law_table : List Str := ["cell", "states", "wide", "top", "flat", "s"]
abbrev ow__law_table : Ow := owS []
abbrev d__law_table : He.DefD := ⟨("_law_table", none), "_law_table", "_law_table", defArgs st__law_table, defBody st__law_table, sc__law_table, [], []⟩
abbrev st__law_holds : Stmt := top 49
abbrev sc__law_holds : Scope := defScope st__law_holds
abbrev N__law_holds : List Str := ["script", "draws", "inputs", "states", "nexts", "outs", "sizes", "some_nexts", "some_outs", "some_inputs", "at", "member", "letter", "over", "machine", "letters"]
abbrev ow__law_holds : Ow := owS []
abbrev d__law_holds : He.DefD := ⟨("_law_holds", none), "_law_holds", "_law_holds", defArgs st__law_holds, defBody st__law_holds, sc__law_holds, [], []⟩
abbrev st_law : Stmt := top 50
abbrev sc_law : Scope := defScope st_law
abbrev N_law : List Str := ["script"]
abbrev ow_law : Ow := owS []
abbrev d_law : He.DefD := ⟨("law", none), "law", "law", defArgs st_law, defBody st_law, sc_law, [], []⟩
abbrev st_InvalidMachine_init : Stmt := inClass (top 13) 0
abbrev sc_InvalidMachine_init : Scope := defScope st_InvalidMachine_init
abbrev N_InvalidMachine_init : List Str := ["self", "part", "place", "__class__"]
abbrev d_InvalidMachine_init : He.DefD := ⟨("InvalidMachine", some "__init__"), "__init__", "InvalidMachine.__init__", defArgs st_InvalidMachine_init, defBody st_InvalidMachine_init, sc_InvalidMachine_init, [], []⟩
abbrev st_InvalidNumber_init : Stmt := inClass (top 10) 0
abbrev sc_InvalidNumber_init : Scope := defScope st_InvalidNumber_init
abbrev N_InvalidNumber_init : List Str := ["self", "value", "__class__"]
abbrev d_InvalidNumber_init : He.DefD := ⟨("InvalidNumber", some "__init__"), "__init__", "InvalidNumber.__init__", defArgs st_InvalidNumber_init, defBody st_InvalidNumber_init, sc_InvalidNumber_init, [], []⟩
abbrev st_InvalidReading_init : Stmt := inClass (top 12) 0
abbrev sc_InvalidReading_init : Scope := defScope st_InvalidReading_init
abbrev N_InvalidReading_init : List Str := ["self", "value", "__class__"]
abbrev d_InvalidReading_init : He.DefD := ⟨("InvalidReading", some "__init__"), "__init__", "InvalidReading.__init__", defArgs st_InvalidReading_init, defBody st_InvalidReading_init, sc_InvalidReading_init, [], []⟩
abbrev st_InvalidWords_init : Stmt := inClass (top 11) 0
abbrev sc_InvalidWords_init : Scope := defScope st_InvalidWords_init
abbrev N_InvalidWords_init : List Str := ["self", "value", "__class__"]
abbrev d_InvalidWords_init : He.DefD := ⟨("InvalidWords", some "__init__"), "__init__", "InvalidWords.__init__", defArgs st_InvalidWords_init, defBody st_InvalidWords_init, sc_InvalidWords_init, [], []⟩
abbrev FILE : Str := "/claim/cut.py"
abbrev xfs : List He.DefD := [d_InvalidMachine_init, d_InvalidNumber_init, d_InvalidReading_init, d_InvalidWords_init]
abbrev fa : List He.Fa := [.free "tuple", .free "list", .free "isinstance", .free "len", .free "int", .free "bool", .free "enumerate", .free "all", .free "min", .free "range", .glo "InvalidMachine", .glo "InvalidRow", .glo "InvalidMarks", .glo "InvalidKind", .glo "InvalidPrimes", .glo "InvalidText", .glo "InvalidCommand", .glo "Undefined", .glo "NothingToDo", .glo "NothingKept", .free "ValueError", .glo "InvalidNumber", .glo "InvalidReading", .glo "InvalidWords", .glo "CarryError", .glo "Machine", .free "str", .free "sum", .glo "is_integer", .glo "is_inputs", .glo "as_tuple", .glo "is_below", .glo "is_line", .glo "right_nexts", .glo "right_outs", .mkr "Machine", .glo "is_reading", .cls "Machine", .meth "Machine" "led", .glo "_law_integer", .glo "_law_alike", .meth "Machine" "bits_written", .glo "is_number", .glo "is_word", .glo "are_words", .glo "letters_of", .meth "Machine" "write", .glo "_law_called", .glo "_law_refused", .glo "_law_calls_refused", .glo "_law_cell", .glo "_law_mixed", .glo "_law_draws", .glo "_law_in_range", .glo "_law_first_wrong", .glo "_law_fault", .glo "_law_made_rightly", .glo "_law_spoilt_member", .glo "_law_spoilt_table", .glo "_law_other_nexts", .glo "_law_other_outs", .glo "_law_table", .glo "_law_holds", .glo "law", .free "super"]
abbrev fns : List He.DefD := [d_is_integer, d_is_inputs, d_as_tuple, d_is_below, d_is_line, d_right_nexts, d_right_outs, d_Machine_init, d_is_reading, d_Machine_led, d__law_integer, d__law_alike, d_Machine_bits_written, d_is_number, d_is_word, d_are_words, d_letters_of, d_Machine_write, d__law_called, d__law_refused, d__law_calls_refused, d__law_cell, d__law_mixed, d__law_draws, d__law_in_range, d__law_first_wrong, d__law_fault, d__law_made_rightly, d__law_spoilt_member, d__law_spoilt_table, d__law_other_nexts, d__law_other_outs, d__law_table, d__law_holds, d_law]
abbrev tbs : List He.Tab := []
abbrev mss : List (Frag → Bool) := [kitC CS, attB ["Machine"] "inputs", attB ["Machine"] "nexts", attB ["Machine"] "outs", ersB ES EALL EFL, errB FILE "InvalidMachine" "InvalidMachine.__init__" ["part", "place"], errB FILE "InvalidNumber" "InvalidNumber.__init__" ["value"], errB FILE "InvalidReading" "InvalidReading.__init__" ["value"], errB FILE "InvalidWords" "InvalidWords.__init__" ["value"]]
abbrev Fs (P : Program) (w : World) (K : Frag) (mg : Str → Option Value) : Prop := FactsY fa fns xfs tbs mss FILE P w K mg
section
variable {P : Program} {w : World} {K : Frag} {mg : Str → Option Value} {base : Heap}
theorem S_InvalidMachine_init : NdefX.NScope N_InvalidMachine_init ["self", "part", "place"] ["__class__"] sc_InvalidMachine_init := NdefX.nscope_by (by decide +kernel)
theorem er_InvalidMachine (Y : Fs P w K mg) : ErrOk P w K mg base 1 "InvalidMachine" ["part", "place"] :=
  err_ok (k := 0) (self := "self") (N := N_InvalidMachine_init) (ps := ["self", "part", "place"]) (Y.err 0 5 (d := d_InvalidMachine_init) (c := "InvalidMachine") (fs := ["part", "place"])) (Y.glo 10) (Y.free 64) Y.ps rfl S_InvalidMachine_init rfl rfl rfl rfl (fun _ _ _ _ _ _ _ us hl => match us, hl with | [_, _, _], _ => rfl)
    (fun _ _ _ _ _ _ _ _ => (pss_cons (ps_ost (pv 0) (pv 1)) (pss_one (ps_ost (pv 0) (pv 2)))))
    (fun a ws H1 Dn σ h0 h1 hl hn q => fld_two (Y.err 0 5 (d := d_InvalidMachine_init) (c := "InvalidMachine") (fs := ["part", "place"])).T ((Y.err 0 5 (d := d_InvalidMachine_init) (c := "InvalidMachine") (fs := ["part", "place"])).no _ (by simp)) ((Y.err 0 5 (d := d_InvalidMachine_init) (c := "InvalidMachine") (fs := ["part", "place"])).no _ (by simp)) h0 h1 hl hn q) (fun _ _ _ _ => rfl) (fun _ _ _ _ => rfl) (fun _ _ _ _ => rfl) (fun _ _ _ _ => rfl)
theorem S_InvalidNumber_init : NdefX.NScope N_InvalidNumber_init ["self", "value"] ["__class__"] sc_InvalidNumber_init := NdefX.nscope_by (by decide +kernel)
theorem er_InvalidNumber (Y : Fs P w K mg) : ErrOk P w K mg base 1 "InvalidNumber" ["value"] :=
  err_ok (k := 0) (self := "self") (N := N_InvalidNumber_init) (ps := ["self", "value"]) (Y.err 1 6 (d := d_InvalidNumber_init) (c := "InvalidNumber") (fs := ["value"])) (Y.glo 21) (Y.free 64) Y.ps rfl S_InvalidNumber_init rfl rfl rfl rfl (fun _ _ _ _ _ _ _ us hl => match us, hl with | [_, _], _ => rfl)
    (fun _ _ _ _ _ _ _ _ => (pss_one (ps_ost (pv 0) (pv 1))))
    (fun a ws H1 Dn σ h0 h1 hl hn q => fld_one (Y.err 1 6 (d := d_InvalidNumber_init) (c := "InvalidNumber") (fs := ["value"])).T ((Y.err 1 6 (d := d_InvalidNumber_init) (c := "InvalidNumber") (fs := ["value"])).no _ (by simp)) h0 h1 hl hn q) (fun _ _ _ _ => rfl) (fun _ _ _ _ => rfl) (fun _ _ _ _ => rfl) (fun _ _ _ _ => rfl)
theorem S_InvalidReading_init : NdefX.NScope N_InvalidReading_init ["self", "value"] ["__class__"] sc_InvalidReading_init := NdefX.nscope_by (by decide +kernel)
theorem er_InvalidReading (Y : Fs P w K mg) : ErrOk P w K mg base 1 "InvalidReading" ["value"] :=
  err_ok (k := 0) (self := "self") (N := N_InvalidReading_init) (ps := ["self", "value"]) (Y.err 2 7 (d := d_InvalidReading_init) (c := "InvalidReading") (fs := ["value"])) (Y.glo 22) (Y.free 64) Y.ps rfl S_InvalidReading_init rfl rfl rfl rfl (fun _ _ _ _ _ _ _ us hl => match us, hl with | [_, _], _ => rfl)
    (fun _ _ _ _ _ _ _ _ => (pss_one (ps_ost (pv 0) (pv 1))))
    (fun a ws H1 Dn σ h0 h1 hl hn q => fld_one (Y.err 2 7 (d := d_InvalidReading_init) (c := "InvalidReading") (fs := ["value"])).T ((Y.err 2 7 (d := d_InvalidReading_init) (c := "InvalidReading") (fs := ["value"])).no _ (by simp)) h0 h1 hl hn q) (fun _ _ _ _ => rfl) (fun _ _ _ _ => rfl) (fun _ _ _ _ => rfl) (fun _ _ _ _ => rfl)
theorem S_InvalidWords_init : NdefX.NScope N_InvalidWords_init ["self", "value"] ["__class__"] sc_InvalidWords_init := NdefX.nscope_by (by decide +kernel)
theorem er_InvalidWords (Y : Fs P w K mg) : ErrOk P w K mg base 1 "InvalidWords" ["value"] :=
  err_ok (k := 0) (self := "self") (N := N_InvalidWords_init) (ps := ["self", "value"]) (Y.err 3 8 (d := d_InvalidWords_init) (c := "InvalidWords") (fs := ["value"])) (Y.glo 23) (Y.free 64) Y.ps rfl S_InvalidWords_init rfl rfl rfl rfl (fun _ _ _ _ _ _ _ us hl => match us, hl with | [_, _], _ => rfl)
    (fun _ _ _ _ _ _ _ _ => (pss_one (ps_ost (pv 0) (pv 1))))
    (fun a ws H1 Dn σ h0 h1 hl hn q => fld_one (Y.err 3 8 (d := d_InvalidWords_init) (c := "InvalidWords") (fs := ["value"])).T ((Y.err 3 8 (d := d_InvalidWords_init) (c := "InvalidWords") (fs := ["value"])).no _ (by simp)) h0 h1 hl hn q) (fun _ _ _ _ => rfl) (fun _ _ _ _ => rfl) (fun _ _ _ _ => rfl) (fun _ _ _ _ => rfl)
theorem SH__law_alike : FnScope N__law_alike ["actual", "due"] sc__law_alike := ⟨rfl, rfl, rfl, by decide +kernel, rfl, by decide +kernel, by decide +kernel⟩
theorem cH_law_alike (Y : Fs P w K mg) : ∀ k : Nat, CallH P w K mg base (1 + k) "_law_alike" d__law_alike ["actual", "due"] 2 (m_law_alike k)
  | 0 => def_okH (d := d__law_alike) (N := N__law_alike) (ps := ["actual", "due"]) (p := 2) (m := dead) (k := 0) (ow := ow__law_alike) (oN := owS []) (oB := owS []) (Y.def_ 11) (Y.glo 40) SH__law_alike rfl rfl (by decide) (fun _ _ _ _ _ _ us hl => match us, hl with | [_, _], _ => rfl) (fun cdv A outer s H E q T => ss_dead)
  | k + 1 => def_okH (d := d__law_alike) (N := N__law_alike) (ps := ["actual", "due"]) (p := 2) (k := 1 + k) (ow := ow__law_alike) (oN := owS []) (oB := owS []) (Y.def_ 11) (Y.glo 40) SH__law_alike rfl rfl (by decide) (fun _ _ _ _ _ _ us hl => match us, hl with | [_, _], _ => rfl) (fun cdv A outer s H E q T => (ss_cons (s_if (t_tst (w_of (x_isi1 (cs := CS) (t := (.cls "Machine")) rfl (kit_of_b (Y.more 0)) rfl (Y.free 2) (w_of (x_var (pv 1) rfl)) (pe_glob rfl (Y.glo 25) rfl))) (by intro _; rfl)) (ss_one (s_ret (x_and (x_isi1 (cs := CS) (t := (.cls "Machine")) rfl (kit_of_b (Y.more 0)) rfl (Y.free 2) (w_of (x_var (pv 0) rfl)) (pe_glob rfl (Y.glo 25) rfl)) (x_and (x_own1H T (cH_law_alike Y k) (Nat.le_refl _) rfl (xa_cons (x_attr (att_ok (Y.more 2)) (w_of (x_var (pv 0) rfl))) (xa_cons (x_attr (att_ok (Y.more 2)) (w_of (x_var (pv 1) rfl))) xa_nil))) (x_one (x_own1H T (cH_law_alike Y k) (Nat.le_refl _) rfl (xa_cons (x_attr (att_ok (Y.more 3)) (w_of (x_var (pv 0) rfl))) (xa_cons (x_attr (att_ok (Y.more 3)) (w_of (x_var (pv 1) rfl))) xa_nil)))))))) ss_nil)
  (ss_cons (s_if (t_tst (w_of (x_isiT (cs := CS) (ts := [.lst, .tup]) rfl (kit_of_b (Y.more 0)) rfl (Y.free 2) (w_of (x_var (pv 1) rfl)) (TyL.cons (t := .lst) (pe_bltn rfl (Y.free 1) hv_list rfl) (TyL.cons (t := .tup) (pe_bltn rfl (Y.free 0) hv_tuple rfl) TyL.nil rfl) rfl) (by decide))) (by intro _; rfl)) (ss_cons (s_if (PW.pt (t_or (t_not (t_tst (w_of (x_isiT (cs := CS) (ts := [.lst, .tup]) rfl (kit_of_b (Y.more 0)) rfl (Y.free 2) (w_of (x_var (pv 0) rfl)) (TyL.cons (t := .lst) (pe_bltn rfl (Y.free 1) hv_list rfl) (TyL.cons (t := .tup) (pe_bltn rfl (Y.free 0) hv_tuple rfl) TyL.nil rfl) rfl) (by decide))) (by intro _; rfl))) (t_or1 (t_cmp T.ne n_ne b_ne (w_of (x_isi1 (cs := CS) (t := .lst) rfl (kit_of_b (Y.more 0)) rfl (Y.free 2) (w_of (x_var (pv 0) rfl)) (pe_bltn rfl (Y.free 1) hv_list rfl))) (w_of (x_isi1 (cs := CS) (t := .lst) rfl (kit_of_b (Y.more 0)) rfl (Y.free 2) (w_of (x_var (pv 1) rfl)) (pe_bltn rfl (Y.free 1) hv_list rfl))) rfl)))) (ss_one (s_ret x_bl)) ss_nil)
  (ss_cons (s_if (t_cmp T.ne n_ne b_ne (w_of (x_b1 v_len n_len rfl (Y.free 3) hv_len (w_of (x_var (pv 0) rfl)))) (w_of (x_b1 v_len n_len rfl (Y.free 3) hv_len (w_of (x_var (pv 1) rfl)))) rfl) (ss_one (s_ret x_bl)) ss_nil)
  (ss_cons (s_forH T.po T.hot (i_rng1H rfl (Y.free 9) (x_b1 v_len n_len rfl (Y.free 3) hv_len (w_of (x_var (pv 1) rfl)))) (g_nm (pg_name (i := 2) T.nd rfl (Or.inl rfl)) rfl) (ss_one (s_if (t_not (t_tst (w_of (x_own1H T (cH_law_alike Y k) (Nat.le_refl _) rfl (xa_cons (x_idx (w_of (x_var (pv 0) rfl)) (w_of (x_var (pv 2) rfl))) (xa_cons (x_idx (w_of (x_var (pv 1) rfl)) (w_of (x_var (pv 2) rfl))) xa_nil)))) (by intro _; rfl))) (ss_one (s_ret x_bl)) ss_nil)))
  (ss_one (s_ret x_bl))))) ss_nil)
  (ss_cons (s_if (t_isN (w_of (x_var (pv 1) rfl))) (ss_one (s_ret (x_isN (w_of (x_var (pv 0) rfl))))) ss_nil)
  (ss_cons (s_if (PW.pt (t_or (t_tst (w_of (x_isi1 (cs := CS) (t := .bl) rfl (kit_of_b (Y.more 0)) rfl (Y.free 2) (w_of (x_var (pv 1) rfl)) (pe_bltn rfl (Y.free 5) hv_bool rfl))) (by intro _; rfl)) (t_or1 (t_tst (w_of (x_isi1 (cs := CS) (t := .bl) rfl (kit_of_b (Y.more 0)) rfl (Y.free 2) (w_of (x_var (pv 0) rfl)) (pe_bltn rfl (Y.free 5) hv_bool rfl))) (by intro _; rfl))))) (ss_one (s_ret (x_and (x_isi1 (cs := CS) (t := .bl) rfl (kit_of_b (Y.more 0)) rfl (Y.free 2) (w_of (x_var (pv 1) rfl)) (pe_bltn rfl (Y.free 5) hv_bool rfl)) (x_and (x_isi1 (cs := CS) (t := .bl) rfl (kit_of_b (Y.more 0)) rfl (Y.free 2) (w_of (x_var (pv 0) rfl)) (pe_bltn rfl (Y.free 5) hv_bool rfl)) (x_one (x_cmp T.eq n_eq (w_of (x_var (pv 0) rfl)) (w_of (x_var (pv 1) rfl)) rfl)))))) ss_nil)
  (ss_cons (s_if (t_tst (w_of (x_isi1 (cs := CS) (t := .str) rfl (kit_of_b (Y.more 0)) rfl (Y.free 2) (w_of (x_var (pv 1) rfl)) (pe_bltn rfl (Y.free 26) hv_str rfl))) (by intro _; rfl)) (ss_one (s_ret (x_and (x_isi1 (cs := CS) (t := .str) rfl (kit_of_b (Y.more 0)) rfl (Y.free 2) (w_of (x_var (pv 0) rfl)) (pe_bltn rfl (Y.free 26) hv_str rfl)) (x_one (x_cmp T.eq n_eq (w_of (x_var (pv 0) rfl)) (w_of (x_var (pv 1) rfl)) rfl))))) ss_nil)
  (ss_one (s_ret (x_and (x_isi1 (cs := CS) (t := .int) rfl (kit_of_b (Y.more 0)) rfl (Y.free 2) (w_of (x_var (pv 0) rfl)) (pe_bltn rfl (Y.free 4) hv_int rfl)) (x_one (x_cmp T.eq n_eq (w_of (x_var (pv 0) rfl)) (w_of (x_var (pv 1) rfl)) rfl)))))))))))
theorem SH__law_integer : FnScope N__law_integer ["actual", "due"] sc__law_integer := ⟨rfl, rfl, rfl, by decide +kernel, rfl, by decide +kernel, by decide +kernel⟩
theorem cH_law_integer (Y : Fs P w K mg) : CallH P w K mg base 1 "_law_integer" d__law_integer ["actual", "due"] 2 m_law_integer :=
  def_okH (d := d__law_integer) (N := N__law_integer) (ps := ["actual", "due"]) (p := 2) (m := b__law_integer) (k := 0) (ow := ow__law_integer) (oN := owS []) (oB := owS []) (Y.def_ 10) (Y.glo 39) SH__law_integer rfl rfl (by decide) (fun _ _ _ _ _ _ us hl => match us, hl with | [_, _], _ => rfl) (fun cdv A outer s H E q T => (ss_one (s_ret (x_and (x_isi1 (cs := CS) (t := .int) rfl (kit_of_b (Y.more 0)) rfl (Y.free 2) (w_of (x_var (pv 0) rfl)) (pe_bltn rfl (Y.free 4) hv_int rfl)) (x_and (x_not (x_isi1 (cs := CS) (t := .bl) rfl (kit_of_b (Y.more 0)) rfl (Y.free 2) (w_of (x_var (pv 0) rfl)) (pe_bltn rfl (Y.free 5) hv_bool rfl))) (x_one (x_cmp T.eq n_eq (w_of (x_var (pv 0) rfl)) (w_of (x_var (pv 1) rfl)) rfl)))))))
theorem S_is_integer : FnScope N_is_integer ["value"] sc_is_integer := ⟨rfl, rfl, rfl, by decide +kernel, rfl, by decide +kernel, by decide +kernel⟩
theorem c_is_integer (Y : Fs P w K mg) : CallOk P w K mg base 1 "is_integer" d_is_integer ["value"] 1 m_is_integer :=
  def_ok (d := d_is_integer) (N := N_is_integer) (ps := ["value"]) (p := 1) (m := b_is_integer) (k := 0) (ow := ow_is_integer) (Y.def_ 0) (Y.glo 28) S_is_integer rfl rfl (by decide) (fun _ _ _ _ _ _ us hl => match us, hl with | [_], _ => rfl) (fun cdv A outer s H E T => (ss_one (s_ret (x_and (x_isi1 (cs := CS) (t := .int) rfl (kit_of_b (Y.more 0)) rfl (Y.free 2) (w_of (x_var (pv 0) rfl)) (pe_bltn rfl (Y.free 4) hv_int rfl)) (x_one (x_not (x_isi1 (cs := CS) (t := .bl) rfl (kit_of_b (Y.more 0)) rfl (Y.free 2) (w_of (x_var (pv 0) rfl)) (pe_bltn rfl (Y.free 5) hv_bool rfl))))))))
theorem S_is_inputs : FnScope N_is_inputs ["value"] sc_is_inputs := ⟨rfl, rfl, rfl, by decide +kernel, rfl, by decide +kernel, by decide +kernel⟩
theorem c_is_inputs (Y : Fs P w K mg) : CallOk P w K mg base 2 "is_inputs" d_is_inputs ["value"] 1 m_is_inputs :=
  def_ok (d := d_is_inputs) (N := N_is_inputs) (ps := ["value"]) (p := 1) (m := b_is_inputs) (k := 1) (ow := ow_is_inputs) (Y.def_ 1) (Y.glo 29) S_is_inputs rfl rfl (by decide) (fun _ _ _ _ _ _ us hl => match us, hl with | [_], _ => rfl) (fun cdv A outer s H E T => (ss_one (s_ret (x_and (x_own1 T (c_is_integer Y) (by decide) rfl (xa_cons (x_var (pv 0) rfl) xa_nil)) (x_one (x_chain y_le y_le n_le n_le (w_of x_int) (w_of (x_var (pv 0) rfl)) (w_of x_int)))))))
theorem S_as_tuple : FnScope N_as_tuple ["value"] sc_as_tuple := ⟨rfl, rfl, rfl, by decide +kernel, rfl, by decide +kernel, by decide +kernel⟩
theorem c_as_tuple (Y : Fs P w K mg) : CallOk P w K mg base 1 "as_tuple" d_as_tuple ["value"] 1 m_as_tuple :=
  def_ok (d := d_as_tuple) (N := N_as_tuple) (ps := ["value"]) (p := 1) (m := b_as_tuple) (k := 0) (ow := ow_as_tuple) (Y.def_ 2) (Y.glo 30) S_as_tuple rfl rfl (by decide) (fun _ _ _ _ _ _ us hl => match us, hl with | [_], _ => rfl) (fun cdv A outer s H E T => (ss_cons (s_if (t_tst (w_of (x_isiT (cs := CS) (ts := [.lst, .tup]) rfl (kit_of_b (Y.more 0)) rfl (Y.free 2) (w_of (x_var (pv 0) rfl)) (TyL.cons (t := .lst) (pe_bltn rfl (Y.free 1) hv_list rfl) (TyL.cons (t := .tup) (pe_bltn rfl (Y.free 0) hv_tuple rfl) TyL.nil rfl) rfl) (by decide))) (by intro _; rfl)) (ss_one (s_ret (x_t1 v_tuple n_tuple rfl (Y.free 0) hv_tuple (w_of (x_var (pv 0) rfl))))) ss_nil)
  (ss_one (s_ret x_non))))
theorem S_is_below : FnScope N_is_below ["value", "limit"] sc_is_below := ⟨rfl, rfl, rfl, by decide +kernel, rfl, by decide +kernel, by decide +kernel⟩
theorem c_is_below (Y : Fs P w K mg) : CallOk P w K mg base 2 "is_below" d_is_below ["value", "limit"] 2 m_is_below :=
  def_ok (d := d_is_below) (N := N_is_below) (ps := ["value", "limit"]) (p := 2) (m := b_is_below) (k := 1) (ow := ow_is_below) (Y.def_ 3) (Y.glo 31) S_is_below rfl rfl (by decide) (fun _ _ _ _ _ _ us hl => match us, hl with | [_, _], _ => rfl) (fun cdv A outer s H E T => (ss_one (s_ret (x_and (x_own1 T (c_is_integer Y) (by decide) rfl (xa_cons (x_var (pv 0) rfl) xa_nil)) (x_one (x_chain y_le y_lt n_le n_lt (w_of x_int) (w_of (x_var (pv 0) rfl)) (w_of (x_var (pv 1) rfl))))))))
theorem S_is_line : FnScope N_is_line ["value", "many", "limit"] sc_is_line := ⟨rfl, rfl, rfl, by decide +kernel, rfl, by decide +kernel, by decide +kernel⟩
theorem c_is_line (Y : Fs P w K mg) : CallOk P w K mg base 3 "is_line" d_is_line ["value", "many", "limit"] 3 m_is_line :=
  def_ok (d := d_is_line) (N := N_is_line) (ps := ["value", "many", "limit"]) (p := 3) (m := b_is_line) (k := 2) (ow := ow_is_line) (Y.def_ 4) (Y.glo 32) S_is_line rfl rfl (by decide) (fun _ _ _ _ _ _ us hl => match us, hl with | [_, _, _], _ => rfl) (fun cdv A outer s H E T => (ss_cons (s_if (PW.pt (t_or (t_not (t_tst (w_of (x_isi1 (cs := CS) (t := .tup) rfl (kit_of_b (Y.more 0)) rfl (Y.free 2) (w_of (x_var (pv 0) rfl)) (pe_bltn rfl (Y.free 0) hv_tuple rfl))) (by intro _; rfl))) (t_or1 (t_cmp T.ne n_ne b_ne (w_of (x_b1 v_len n_len rfl (Y.free 3) hv_len (w_of (x_var (pv 0) rfl)))) (w_of (x_var (pv 1) rfl)) rfl)))) (ss_one (s_ret x_bl)) ss_nil)
  (ss_one (s_ret (x_b1 (v_all T.calm) n_all rfl (Y.free 7) hv_all (w_of (e_of (f_lc (own := [("member", 3)]) T (i_gr (i_seq (x_var (pv 0) rfl))) (blkOk_by (N := N_is_line) (sc := sc_is_line) (own := [("member", 3)]) (by decide +kernel)) (fun _ _ _ _ _ T1 => (g_nm (pg_name (i := 3) T1.nd rfl (Or.inl rfl)) rfl)) (fun _ _ _ _ _ T1 => ts_nil) (fun _ _ _ _ _ T1 => (x_own1 T1 (c_is_below Y) (by decide) rfl (xa_cons (x_var (pv 3) rfl) (xa_cons (x_var (pv 2) rfl) xa_nil)))) (by decide)))))))))
theorem S_right_nexts : FnScope N_right_nexts ["value", "letters"] sc_right_nexts := ⟨rfl, rfl, rfl, by decide +kernel, rfl, by decide +kernel, by decide +kernel⟩
theorem c_right_nexts (Y : Fs P w K mg) : CallOk P w K mg base 4 "right_nexts" d_right_nexts ["value", "letters"] 2 m_right_nexts :=
  def_ok (d := d_right_nexts) (N := N_right_nexts) (ps := ["value", "letters"]) (p := 2) (m := b_right_nexts) (k := 3) (ow := ow_right_nexts) (Y.def_ 5) (Y.glo 33) S_right_nexts rfl rfl (by decide) (fun _ _ _ _ _ _ us hl => match us, hl with | [_, _], _ => rfl) (fun cdv A outer s H E T => (ss_cons (s_set (ps_set (i := 2) T.nd rfl (Or.inl rfl) (x_own1 T (c_as_tuple Y) (by decide) rfl (xa_cons (x_var (pv 0) rfl) xa_nil))) rfl)
  (ss_cons (s_if (t_not (t_tst (w_of (x_var (pv 2) rfl)) (by intro _; rfl))) (ss_one (s_raise T (er_InvalidMachine Y) (by decide) rfl (xa_cons (x_str (s := "nexts")) (xa_cons x_int xa_nil)))) ss_nil)
  (ss_cons (s_for T.po T.calm (i_enum rfl (Y.free 6) (x_var (pv 2) rfl)) (g_tup T.calm (gs_cons (g_nm (pg_name (i := 3) T.nd rfl (Or.inl rfl)) rfl) (gs_cons (g_nm (pg_name (i := 4) T.nd rfl (Or.inl rfl)) rfl) gs_nil))) (ss_one (s_if (t_not (t_tst (w_of (x_own1 T (c_is_line Y) (by decide) rfl (xa_cons (x_var (pv 4) rfl) (xa_cons (x_var (pv 1) rfl) (xa_cons (x_b1 v_len n_len rfl (Y.free 3) hv_len (w_of (x_var (pv 2) rfl))) xa_nil))))) (by intro _; rfl))) (ss_one (s_raise T (er_InvalidMachine Y) (by decide) rfl (xa_cons (x_str (s := "nexts")) (xa_cons (x_var (pv 3) rfl) xa_nil)))) ss_nil)))
  (ss_one (s_ret (x_var (pv 2) rfl)))))))
theorem S_right_outs : FnScope N_right_outs ["value", "letters", "states"] sc_right_outs := ⟨rfl, rfl, rfl, by decide +kernel, rfl, by decide +kernel, by decide +kernel⟩
theorem c_right_outs (Y : Fs P w K mg) : CallOk P w K mg base 4 "right_outs" d_right_outs ["value", "letters", "states"] 3 m_right_outs :=
  def_ok (d := d_right_outs) (N := N_right_outs) (ps := ["value", "letters", "states"]) (p := 3) (m := b_right_outs) (k := 3) (ow := ow_right_outs) (Y.def_ 6) (Y.glo 34) S_right_outs rfl rfl (by decide) (fun _ _ _ _ _ _ us hl => match us, hl with | [_, _, _], _ => rfl) (fun cdv A outer s H E T => (ss_cons (s_set (ps_set (i := 3) T.nd rfl (Or.inl rfl) (x_own1 T (c_as_tuple Y) (by decide) rfl (xa_cons (x_var (pv 0) rfl) xa_nil))) rfl)
  (ss_cons (s_if (t_isN (w_of (x_var (pv 3) rfl))) (ss_one (s_raise T (er_InvalidMachine Y) (by decide) rfl (xa_cons (x_str (s := "outs")) (xa_cons x_int xa_nil)))) ss_nil)
  (ss_cons (s_set (ps_set (i := 4) T.nd rfl (Or.inl rfl) (x_b2 (v_min2 T.calm) n_min2 rfl (Y.free 8) hv_min (w_of (x_b1 v_len n_len rfl (Y.free 3) hv_len (w_of (x_var (pv 3) rfl)))) (w_of (x_var (pv 2) rfl)))) rfl)
  (ss_cons (s_for T.po T.calm (i_rng1 rfl (Y.free 9) (x_var (pv 4) rfl)) (g_nm (pg_name (i := 5) T.nd rfl (Or.inl rfl)) rfl) (ss_one (s_if (t_not (t_tst (w_of (x_own1 T (c_is_line Y) (by decide) rfl (xa_cons (x_idx (w_of (x_var (pv 3) rfl)) (w_of (x_var (pv 5) rfl))) (xa_cons (x_var (pv 1) rfl) (xa_cons x_int xa_nil))))) (by intro _; rfl))) (ss_one (s_raise T (er_InvalidMachine Y) (by decide) rfl (xa_cons (x_str (s := "outs")) (xa_cons (x_var (pv 5) rfl) xa_nil)))) ss_nil)))
  (ss_cons (s_if (t_cmp T.ne n_ne b_ne (w_of (x_b1 v_len n_len rfl (Y.free 3) hv_len (w_of (x_var (pv 3) rfl)))) (w_of (x_var (pv 2) rfl)) rfl) (ss_one (s_raise T (er_InvalidMachine Y) (by decide) rfl (xa_cons (x_str (s := "outs")) (xa_cons (x_var (pv 4) rfl) xa_nil)))) ss_nil)
  (ss_one (s_ret (x_var (pv 3) rfl)))))))))
theorem S_Machine_init : FnScope N_Machine_init ["self", "inputs", "nexts", "outs"] sc_Machine_init := ⟨rfl, rfl, rfl, by decide +kernel, rfl, by decide +kernel, by decide +kernel⟩
theorem c_Machine (Y : Fs P w K mg) : MakeOk P w K mg base 5 "Machine" 4 m_Machine :=
  cls_ok (name := "__init__") (qual := "Machine.__init__") (params := defArgs st_Machine_init) (body := defBody st_Machine_init) (scope := sc_Machine_init) (f := He.ma K (ca K "Machine") "__init__") (N := N_Machine_init) (p := 4) (m := b_Machine_init) (k := 4) (ow := ow_Machine_init) (Y.def_ 7) (Y.glo 25) (Y.mkr 35 (x := "Machine")) S_Machine_init rfl rfl rfl (by decide) (by decide) (fun _ _ _ _ _ _ us hl => match us, hl with | [_, _, _, _], _ => rfl) (fun cdv A outer s H E T => (ss_cons (s_if (t_not (t_tst (w_of (x_own1 T (c_is_inputs Y) (by decide) rfl (xa_cons (x_var (pv 1) rfl) xa_nil))) (by intro _; rfl))) (ss_one (s_raise T (er_InvalidMachine Y) (by decide) rfl (xa_cons (x_str (s := "inputs")) (xa_cons x_int xa_nil)))) ss_nil)
  (ss_cons (s_set (ps_set (i := 4) T.nd rfl (Or.inl rfl) (x_bin y_shl n_shl (w_of x_int) (w_of (x_var (pv 1) rfl)))) rfl)
  (ss_cons (s_setF (att_ok (Y.more 1)) (ps_fld (pv 0) (x_var (pv 1) rfl) rfl) rfl)
  (ss_cons (s_setF (att_ok (Y.more 2)) (ps_fld (pv 0) (x_own1 T (c_right_nexts Y) (by decide) rfl (xa_cons (x_var (pv 2) rfl) (xa_cons (x_var (pv 4) rfl) xa_nil))) rfl) rfl)
  (ss_one (s_setF (att_ok (Y.more 3)) (ps_fld (pv 0) (x_own1 T (c_right_outs Y) (by decide) rfl (xa_cons (x_var (pv 3) rfl) (xa_cons (x_var (pv 4) rfl) (xa_cons (x_b1 v_len n_len rfl (Y.free 3) hv_len (w_of (x_attr (att_ok (Y.more 2)) (x_own (pv 0))))) xa_nil)))) rfl) rfl)))))))
theorem S_is_reading : FnScope N_is_reading ["value", "inputs"] sc_is_reading := ⟨rfl, rfl, rfl, by decide +kernel, rfl, by decide +kernel, by decide +kernel⟩
theorem c_is_reading (Y : Fs P w K mg) : CallOk P w K mg base 3 "is_reading" d_is_reading ["value", "inputs"] 2 m_is_reading :=
  def_ok (d := d_is_reading) (N := N_is_reading) (ps := ["value", "inputs"]) (p := 2) (m := b_is_reading) (k := 2) (ow := ow_is_reading) (Y.def_ 8) (Y.glo 36) S_is_reading rfl rfl (by decide) (fun _ _ _ _ _ _ us hl => match us, hl with | [_, _], _ => rfl) (fun cdv A outer s H E T => (ss_cons (s_if (t_not (t_tst (w_of (x_isi1 (cs := CS) (t := .tup) rfl (kit_of_b (Y.more 0)) rfl (Y.free 2) (w_of (x_var (pv 0) rfl)) (pe_bltn rfl (Y.free 0) hv_tuple rfl))) (by intro _; rfl))) (ss_one (s_ret x_bl)) ss_nil)
  (ss_one (s_ret (x_b1 (v_all T.calm) n_all rfl (Y.free 7) hv_all (w_of (e_of (f_lc (own := [("letter", 2)]) T (i_gr (i_seq (x_var (pv 0) rfl))) (blkOk_by (N := N_is_reading) (sc := sc_is_reading) (own := [("letter", 2)]) (by decide +kernel)) (fun _ _ _ _ _ T1 => (g_nm (pg_name (i := 2) T1.nd rfl (Or.inl rfl)) rfl)) (fun _ _ _ _ _ T1 => ts_nil) (fun _ _ _ _ _ T1 => (x_own1 T1 (c_is_below Y) (by decide) rfl (xa_cons (x_var (pv 2) rfl) (xa_cons (x_bin y_shl n_shl (w_of x_int) (w_of (x_var (pv 1) rfl))) xa_nil)))) (by decide)))))))))
theorem S_Machine_led : FnScope N_Machine_led ["self", "state", "reading"] sc_Machine_led := ⟨rfl, rfl, rfl, by decide +kernel, rfl, by decide +kernel, by decide +kernel⟩
theorem c_Machine_led (Y : Fs P w K mg) : MethOk P w K mg base 4 "Machine" "led" 3 m_Machine_led :=
  meth_def (d := d_Machine_led) (N := N_Machine_led) (ps := ["self", "state", "reading"]) (p := 3) (m := b_Machine_led) (k := 3) (ow := ow_Machine_led) (Y.def_ 9) (Y.cls 37) (Y.meth 38) S_Machine_led rfl rfl (by decide) (fun _ _ _ _ _ _ us hl => match us, hl with | [_, _, _], _ => rfl) (fun cdv A outer s H E T => (ss_cons (s_if (t_not (t_tst (w_of (x_own1 T (c_is_below Y) (by decide) rfl (xa_cons (x_var (pv 1) rfl) (xa_cons (x_b1 v_len n_len rfl (Y.free 3) hv_len (w_of (x_attr (att_ok (Y.more 2)) (w_of (x_var (pv 0) rfl))))) xa_nil)))) (by intro _; rfl))) (ss_one (s_raise T (er_InvalidNumber Y) (by decide) rfl (xa_cons (x_var (pv 1) rfl) xa_nil))) ss_nil)
  (ss_cons (s_if (t_not (t_tst (w_of (x_own1 T (c_is_reading Y) (by decide) rfl (xa_cons (x_var (pv 2) rfl) (xa_cons (x_attr (att_ok (Y.more 1)) (w_of (x_var (pv 0) rfl))) xa_nil)))) (by intro _; rfl))) (ss_one (s_raise T (er_InvalidReading Y) (by decide) rfl (xa_cons (x_var (pv 2) rfl) xa_nil))) ss_nil)
  (ss_cons (s_set (ps_set (i := 3) T.nd rfl (Or.inl rfl) (x_var (pv 1) rfl)) rfl)
  (ss_cons (s_for T.po T.calm (i_seq (x_var (pv 2) rfl)) (g_nm (pg_name (i := 4) T.nd rfl (Or.inl rfl)) rfl) (ss_one (s_set (ps_set (i := 3) T.nd rfl (Or.inl rfl) (x_idx (w_of (x_idx (w_of (x_attr (att_ok (Y.more 2)) (w_of (x_var (pv 0) rfl)))) (w_of (x_var (pv 3) rfl)))) (w_of (x_var (pv 4) rfl)))) rfl)))
  (ss_one (s_ret (x_var (pv 3) rfl))))))))
theorem S__law_integer : FnScope N__law_integer ["actual", "due"] sc__law_integer := ⟨rfl, rfl, rfl, by decide +kernel, rfl, by decide +kernel, by decide +kernel⟩
theorem c_law_integer (Y : Fs P w K mg) : CallOk P w K mg base 1 "_law_integer" d__law_integer ["actual", "due"] 2 m_law_integer :=
  def_ok (d := d__law_integer) (N := N__law_integer) (ps := ["actual", "due"]) (p := 2) (m := b__law_integer) (k := 0) (ow := ow__law_integer) (Y.def_ 10) (Y.glo 39) S__law_integer rfl rfl (by decide) (fun _ _ _ _ _ _ us hl => match us, hl with | [_, _], _ => rfl) (fun cdv A outer s H E T => (ss_one (s_ret (x_and (x_isi1 (cs := CS) (t := .int) rfl (kit_of_b (Y.more 0)) rfl (Y.free 2) (w_of (x_var (pv 0) rfl)) (pe_bltn rfl (Y.free 4) hv_int rfl)) (x_and (x_not (x_isi1 (cs := CS) (t := .bl) rfl (kit_of_b (Y.more 0)) rfl (Y.free 2) (w_of (x_var (pv 0) rfl)) (pe_bltn rfl (Y.free 5) hv_bool rfl))) (x_one (x_cmp T.eq n_eq (w_of (x_var (pv 0) rfl)) (w_of (x_var (pv 1) rfl)) rfl)))))))
theorem S__law_alike : FnScope N__law_alike ["actual", "due"] sc__law_alike := ⟨rfl, rfl, rfl, by decide +kernel, rfl, by decide +kernel, by decide +kernel⟩
theorem c_law_alike (Y : Fs P w K mg) : ∀ k : Nat, CallOk P w K mg base (1 + k) "_law_alike" d__law_alike ["actual", "due"] 2 (m_law_alike k)
  | 0 => def_ok (d := d__law_alike) (N := N__law_alike) (ps := ["actual", "due"]) (p := 2) (m := dead) (k := 0) (ow := ow__law_alike) (Y.def_ 11) (Y.glo 40) S__law_alike rfl rfl (by decide) (fun _ _ _ _ _ _ us hl => match us, hl with | [_, _], _ => rfl) (fun cdv A outer s H E T => ss_dead)
  | k + 1 => def_ok (d := d__law_alike) (N := N__law_alike) (ps := ["actual", "due"]) (p := 2) (k := 1 + k) (ow := ow__law_alike) (Y.def_ 11) (Y.glo 40) S__law_alike rfl rfl (by decide) (fun _ _ _ _ _ _ us hl => match us, hl with | [_, _], _ => rfl) (fun cdv A outer s H E T => (ss_cons (s_if (t_tst (w_of (x_isi1 (cs := CS) (t := (.cls "Machine")) rfl (kit_of_b (Y.more 0)) rfl (Y.free 2) (w_of (x_var (pv 1) rfl)) (pe_glob rfl (Y.glo 25) rfl))) (by intro _; rfl)) (ss_one (s_ret (x_and (x_isi1 (cs := CS) (t := (.cls "Machine")) rfl (kit_of_b (Y.more 0)) rfl (Y.free 2) (w_of (x_var (pv 0) rfl)) (pe_glob rfl (Y.glo 25) rfl)) (x_and (x_own1 T (c_law_alike Y k) (Nat.le_refl _) rfl (xa_cons (x_attr (att_ok (Y.more 2)) (w_of (x_var (pv 0) rfl))) (xa_cons (x_attr (att_ok (Y.more 2)) (w_of (x_var (pv 1) rfl))) xa_nil))) (x_one (x_own1 T (c_law_alike Y k) (Nat.le_refl _) rfl (xa_cons (x_attr (att_ok (Y.more 3)) (w_of (x_var (pv 0) rfl))) (xa_cons (x_attr (att_ok (Y.more 3)) (w_of (x_var (pv 1) rfl))) xa_nil)))))))) ss_nil)
  (ss_cons (s_if (t_tst (w_of (x_isiT (cs := CS) (ts := [.lst, .tup]) rfl (kit_of_b (Y.more 0)) rfl (Y.free 2) (w_of (x_var (pv 1) rfl)) (TyL.cons (t := .lst) (pe_bltn rfl (Y.free 1) hv_list rfl) (TyL.cons (t := .tup) (pe_bltn rfl (Y.free 0) hv_tuple rfl) TyL.nil rfl) rfl) (by decide))) (by intro _; rfl)) (ss_cons (s_if (PW.pt (t_or (t_not (t_tst (w_of (x_isiT (cs := CS) (ts := [.lst, .tup]) rfl (kit_of_b (Y.more 0)) rfl (Y.free 2) (w_of (x_var (pv 0) rfl)) (TyL.cons (t := .lst) (pe_bltn rfl (Y.free 1) hv_list rfl) (TyL.cons (t := .tup) (pe_bltn rfl (Y.free 0) hv_tuple rfl) TyL.nil rfl) rfl) (by decide))) (by intro _; rfl))) (t_or1 (t_cmp T.ne n_ne b_ne (w_of (x_isi1 (cs := CS) (t := .lst) rfl (kit_of_b (Y.more 0)) rfl (Y.free 2) (w_of (x_var (pv 0) rfl)) (pe_bltn rfl (Y.free 1) hv_list rfl))) (w_of (x_isi1 (cs := CS) (t := .lst) rfl (kit_of_b (Y.more 0)) rfl (Y.free 2) (w_of (x_var (pv 1) rfl)) (pe_bltn rfl (Y.free 1) hv_list rfl))) rfl)))) (ss_one (s_ret x_bl)) ss_nil)
  (ss_cons (s_if (t_cmp T.ne n_ne b_ne (w_of (x_b1 v_len n_len rfl (Y.free 3) hv_len (w_of (x_var (pv 0) rfl)))) (w_of (x_b1 v_len n_len rfl (Y.free 3) hv_len (w_of (x_var (pv 1) rfl)))) rfl) (ss_one (s_ret x_bl)) ss_nil)
  (ss_cons (s_for T.po T.calm (i_rng1 rfl (Y.free 9) (x_b1 v_len n_len rfl (Y.free 3) hv_len (w_of (x_var (pv 1) rfl)))) (g_nm (pg_name (i := 2) T.nd rfl (Or.inl rfl)) rfl) (ss_one (s_if (t_not (t_tst (w_of (x_own1 T (c_law_alike Y k) (Nat.le_refl _) rfl (xa_cons (x_idx (w_of (x_var (pv 0) rfl)) (w_of (x_var (pv 2) rfl))) (xa_cons (x_idx (w_of (x_var (pv 1) rfl)) (w_of (x_var (pv 2) rfl))) xa_nil)))) (by intro _; rfl))) (ss_one (s_ret x_bl)) ss_nil)))
  (ss_one (s_ret x_bl))))) ss_nil)
  (ss_cons (s_if (t_isN (w_of (x_var (pv 1) rfl))) (ss_one (s_ret (x_isN (w_of (x_var (pv 0) rfl))))) ss_nil)
  (ss_cons (s_if (PW.pt (t_or (t_tst (w_of (x_isi1 (cs := CS) (t := .bl) rfl (kit_of_b (Y.more 0)) rfl (Y.free 2) (w_of (x_var (pv 1) rfl)) (pe_bltn rfl (Y.free 5) hv_bool rfl))) (by intro _; rfl)) (t_or1 (t_tst (w_of (x_isi1 (cs := CS) (t := .bl) rfl (kit_of_b (Y.more 0)) rfl (Y.free 2) (w_of (x_var (pv 0) rfl)) (pe_bltn rfl (Y.free 5) hv_bool rfl))) (by intro _; rfl))))) (ss_one (s_ret (x_and (x_isi1 (cs := CS) (t := .bl) rfl (kit_of_b (Y.more 0)) rfl (Y.free 2) (w_of (x_var (pv 1) rfl)) (pe_bltn rfl (Y.free 5) hv_bool rfl)) (x_and (x_isi1 (cs := CS) (t := .bl) rfl (kit_of_b (Y.more 0)) rfl (Y.free 2) (w_of (x_var (pv 0) rfl)) (pe_bltn rfl (Y.free 5) hv_bool rfl)) (x_one (x_cmp T.eq n_eq (w_of (x_var (pv 0) rfl)) (w_of (x_var (pv 1) rfl)) rfl)))))) ss_nil)
  (ss_cons (s_if (t_tst (w_of (x_isi1 (cs := CS) (t := .str) rfl (kit_of_b (Y.more 0)) rfl (Y.free 2) (w_of (x_var (pv 1) rfl)) (pe_bltn rfl (Y.free 26) hv_str rfl))) (by intro _; rfl)) (ss_one (s_ret (x_and (x_isi1 (cs := CS) (t := .str) rfl (kit_of_b (Y.more 0)) rfl (Y.free 2) (w_of (x_var (pv 0) rfl)) (pe_bltn rfl (Y.free 26) hv_str rfl)) (x_one (x_cmp T.eq n_eq (w_of (x_var (pv 0) rfl)) (w_of (x_var (pv 1) rfl)) rfl))))) ss_nil)
  (ss_one (s_ret (x_and (x_isi1 (cs := CS) (t := .int) rfl (kit_of_b (Y.more 0)) rfl (Y.free 2) (w_of (x_var (pv 0) rfl)) (pe_bltn rfl (Y.free 4) hv_int rfl)) (x_one (x_cmp T.eq n_eq (w_of (x_var (pv 0) rfl)) (w_of (x_var (pv 1) rfl)) rfl)))))))))))
theorem S_Machine_bits_written : FnScope N_Machine_bits_written ["self", "reading"] sc_Machine_bits_written := ⟨rfl, rfl, rfl, by decide +kernel, rfl, by decide +kernel, by decide +kernel⟩
theorem c_Machine_bits_written (Y : Fs P w K mg) : MethOk P w K mg base 4 "Machine" "bits_written" 2 m_Machine_bits_written :=
  meth_def (d := d_Machine_bits_written) (N := N_Machine_bits_written) (ps := ["self", "reading"]) (p := 2) (m := b_Machine_bits_written) (k := 3) (ow := ow_Machine_bits_written) (oN := owS []) (oB := owS []) (Y.def_ 12) (Y.cls 37) (Y.meth 41) S_Machine_bits_written rfl rfl (by decide) (fun _ _ _ _ _ _ us hl => match us, hl with | [_, _], _ => rfl) (fun cdv A outer s H E T => (c_cons (o1 := owS []) (c_if (t_not (t_tst (w_of (x_own1 T (c_is_reading Y) (by decide) rfl (xa_cons (x_var (pv 1) rfl) (xa_cons (x_attr (att_ok (Y.more 1)) (w_of (x_var (pv 0) rfl))) xa_nil)))) (by intro _; rfl))) (c_one (s_up (s_raise T (er_InvalidReading Y) (by decide) rfl (xa_cons (x_var (pv 1) rfl) xa_nil)) (owS_le (by decide)) (by decide))) (c_cut (o1 := owS []) c_nil (owS_le (by decide)) (by decide)))
  (c_cons (o1 := owS []) (s_up (s_set (ps_set (i := 2) T.nd rfl (Or.inl rfl) x_int) rfl) (owS_le (by decide)) (by decide))
  (c_cons (o1 := owS [3]) (c_own (ps_set (i := 3) T.nd rfl (Or.inl rfl) (f_lst xa_nil)) rfl (owS_add (by decide)))
  (c_cons (o1 := owS [3]) (s_up (s_for T.po T.calm (i_seq (x_var (pv 1) rfl)) (g_nm (pg_name (i := 4) T.nd rfl (Or.inl rfl)) rfl) (c_cons (o1 := owS [3]) (s_up (s_app1 (i := 3) (pv 3) (x_idx (w_of (x_idx (w_of (x_attr (att_ok (Y.more 3)) (w_of (x_var (pv 0) rfl)))) (w_of (x_var (pv 2) rfl)))) (w_of (x_var (pv 4) rfl))) rfl) (owS_le (by decide)) (by decide))
  (c_one (s_up (s_set (ps_set (i := 2) T.nd rfl (Or.inl rfl) (x_idx (w_of (x_idx (w_of (x_attr (att_ok (Y.more 2)) (w_of (x_var (pv 0) rfl)))) (w_of (x_var (pv 2) rfl)))) (w_of (x_var (pv 4) rfl)))) rfl) (owS_le (by decide)) (by decide))))) (owS_le (by decide)) (by decide))
  (c_cut (o1 := owS []) (c_one (s_up (s_ret (x_t1 v_tuple n_tuple rfl (Y.free 0) hv_tuple (w_of (x_var (pv 3) rfl)))) (owS_le (by decide)) (by decide))) (owS_le (by decide)) (by decide)))))))
theorem S_is_number : FnScope N_is_number ["value"] sc_is_number := ⟨rfl, rfl, rfl, by decide +kernel, rfl, by decide +kernel, by decide +kernel⟩
theorem c_is_number (Y : Fs P w K mg) : CallOk P w K mg base 2 "is_number" d_is_number ["value"] 1 m_is_number :=
  def_ok (d := d_is_number) (N := N_is_number) (ps := ["value"]) (p := 1) (m := b_is_number) (k := 1) (ow := ow_is_number) (Y.def_ 13) (Y.glo 42) S_is_number rfl rfl (by decide) (fun _ _ _ _ _ _ us hl => match us, hl with | [_], _ => rfl) (fun cdv A outer s H E T => (ss_one (s_ret (x_and (x_own1 T (c_is_integer Y) (by decide) rfl (xa_cons (x_var (pv 0) rfl) xa_nil)) (x_one (x_cmp y_ge n_ge (w_of (x_var (pv 0) rfl)) (w_of x_int) rfl))))))
theorem S_is_word : FnScope N_is_word ["value", "width"] sc_is_word := ⟨rfl, rfl, rfl, by decide +kernel, rfl, by decide +kernel, by decide +kernel⟩
theorem c_is_word (Y : Fs P w K mg) : CallOk P w K mg base 3 "is_word" d_is_word ["value", "width"] 2 m_is_word :=
  def_ok (d := d_is_word) (N := N_is_word) (ps := ["value", "width"]) (p := 2) (m := b_is_word) (k := 2) (ow := ow_is_word) (Y.def_ 14) (Y.glo 43) S_is_word rfl rfl (by decide) (fun _ _ _ _ _ _ us hl => match us, hl with | [_, _], _ => rfl) (fun cdv A outer s H E T => (ss_one (s_ret (x_and (x_own1 T (c_is_number Y) (by decide) rfl (xa_cons (x_var (pv 0) rfl) xa_nil)) (x_one (x_cmp y_le n_le (w_of (x_bits (w_of (x_var (pv 0) rfl)))) (w_of (x_var (pv 1) rfl)) rfl))))))
theorem S_are_words : FnScope N_are_words ["value", "width", "least", "most"] sc_are_words := ⟨rfl, rfl, rfl, by decide +kernel, rfl, by decide +kernel, by decide +kernel⟩
theorem c_are_words (Y : Fs P w K mg) : CallOk P w K mg base 4 "are_words" d_are_words ["value", "width", "least", "most"] 4 m_are_words :=
  def_ok (d := d_are_words) (N := N_are_words) (ps := ["value", "width", "least", "most"]) (p := 4) (m := b_are_words) (k := 3) (ow := ow_are_words) (Y.def_ 15) (Y.glo 44) S_are_words rfl rfl (by decide) (fun _ _ _ _ _ _ us hl => match us, hl with | [_, _, _, _], _ => rfl) (fun cdv A outer s H E T => (ss_cons (s_set (ps_set (i := 4) T.nd rfl (Or.inl rfl) (x_own1 T (c_as_tuple Y) (by decide) rfl (xa_cons (x_var (pv 0) rfl) xa_nil))) rfl)
  (ss_cons (s_if (PW.pt (t_or (t_isN (w_of (x_var (pv 4) rfl))) (t_or1 (t_not (t_chain y_le y_le n_le n_le (Bl.chain b_le) (w_of (x_var (pv 2) rfl)) (w_of (x_b1 v_len n_len rfl (Y.free 3) hv_len (w_of (x_var (pv 4) rfl)))) (w_of (x_var (pv 3) rfl))))))) (ss_one (s_ret x_bl)) ss_nil)
  (ss_one (s_ret (x_b1 (v_all T.calm) n_all rfl (Y.free 7) hv_all (w_of (e_of (f_lc (own := [("word", 5)]) T (i_gr (i_seq (x_var (pv 4) rfl))) (blkOk_by (N := N_are_words) (sc := sc_are_words) (own := [("word", 5)]) (by decide +kernel)) (fun _ _ _ _ _ T1 => (g_nm (pg_name (i := 5) T1.nd rfl (Or.inl rfl)) rfl)) (fun _ _ _ _ _ T1 => ts_nil) (fun _ _ _ _ _ T1 => (x_own1 T1 (c_is_word Y) (by decide) rfl (xa_cons (x_var (pv 5) rfl) (xa_cons (x_var (pv 1) rfl) xa_nil)))) (by decide))))))))))
theorem S_letters_of : FnScope N_letters_of ["width", "words"] sc_letters_of := ⟨rfl, rfl, rfl, by decide +kernel, rfl, by decide +kernel, by decide +kernel⟩
theorem c_letters_of (Y : Fs P w K mg) : CallOk P w K mg base 1 "letters_of" d_letters_of ["width", "words"] 2 m_letters_of :=
  def_ok (d := d_letters_of) (N := N_letters_of) (ps := ["width", "words"]) (p := 2) (m := b_letters_of) (k := 0) (ow := ow_letters_of) (oN := owS []) (oB := owS []) (Y.def_ 16) (Y.glo 45) S_letters_of rfl rfl (by decide) (fun _ _ _ _ _ _ us hl => match us, hl with | [_, _], _ => rfl) (fun cdv A outer s H E T => (c_cons (o1 := owS [2]) (c_own (ps_set (i := 2) T.nd rfl (Or.inl rfl) (f_lst xa_nil)) rfl (owS_add (by decide)))
  (c_cons (o1 := owS [2]) (s_up (s_for T.po T.calm (i_rng1 rfl (Y.free 9) (x_var (pv 0) rfl)) (g_nm (pg_name (i := 3) T.nd rfl (Or.inr rfl)) rfl) (c_one (s_up (s_app1 (i := 2) (pv 2) (x_b1 (v_sum T.calm) n_sum rfl (Y.free 27) hv_sum (w_of (e_of (f_lc (own := [("i", 4)]) T (i_gr (i_rng1 rfl (Y.free 9) (x_b1 v_len n_len rfl (Y.free 3) hv_len (w_of (x_var (pv 1) rfl))))) (blkOk_by (N := N_letters_of) (sc := sc_letters_of) (own := [("i", 4)]) (by decide +kernel)) (fun _ _ _ _ _ T1 => (g_nm (pg_name (i := 4) T1.nd rfl (Or.inl rfl)) rfl)) (fun _ _ _ _ _ T1 => ts_nil) (fun _ _ _ _ _ T1 => (x_bin y_shl n_shl (w_of (x_bin y_and n_and (w_of (x_bin y_shr n_shr (w_of (x_idx (w_of (x_var (pv 1) rfl)) (w_of (x_var (pv 4) rfl)))) (w_of (x_var (pv 3) rfl)))) (w_of x_int))) (w_of (x_var (pv 4) rfl)))) (by decide))))) rfl) (owS_le (by decide)) (by decide)))) (owS_le (by decide)) (by decide))
  (c_cut (o1 := owS []) (c_one (s_up (s_ret (x_t1 v_tuple n_tuple rfl (Y.free 0) hv_tuple (w_of (x_var (pv 2) rfl)))) (owS_le (by decide)) (by decide))) (owS_le (by decide)) (by decide)))))
theorem S_Machine_write : FnScope N_Machine_write ["self", "width", "words"] sc_Machine_write := ⟨rfl, rfl, rfl, by decide +kernel, rfl, by decide +kernel, by decide +kernel⟩
theorem c_Machine_write (Y : Fs P w K mg) : MethOk P w K mg base 5 "Machine" "write" 3 m_Machine_write :=
  meth_def (d := d_Machine_write) (N := N_Machine_write) (ps := ["self", "width", "words"]) (p := 3) (m := b_Machine_write) (k := 4) (ow := ow_Machine_write) (Y.def_ 17) (Y.cls 37) (Y.meth 46) S_Machine_write rfl rfl (by decide) (fun _ _ _ _ _ _ us hl => match us, hl with | [_, _, _], _ => rfl) (fun cdv A outer s H E T => (ss_cons (s_if (t_not (t_tst (w_of (x_own1 T (c_is_number Y) (by decide) rfl (xa_cons (x_var (pv 1) rfl) xa_nil))) (by intro _; rfl))) (ss_one (s_raise T (er_InvalidNumber Y) (by decide) rfl (xa_cons (x_var (pv 1) rfl) xa_nil))) ss_nil)
  (ss_cons (s_if (t_not (t_tst (w_of (x_own1 T (c_are_words Y) (by decide) rfl (xa_cons (x_var (pv 2) rfl) (xa_cons (x_var (pv 1) rfl) (xa_cons (x_attr (att_ok (Y.more 1)) (w_of (x_var (pv 0) rfl))) (xa_cons (x_attr (att_ok (Y.more 1)) (w_of (x_var (pv 0) rfl))) xa_nil)))))) (by intro _; rfl))) (ss_one (s_raise T (er_InvalidWords Y) (by decide) rfl (xa_cons (x_var (pv 2) rfl) xa_nil))) ss_nil)
  (ss_cons (s_set (ps_set (i := 3) T.nd rfl (Or.inl rfl) (x_meth (mn := "bits_written") rfl T (c_Machine_bits_written Y) (by decide) (fun _ _ _ _ _ h => h) (x_var (pv 0) rfl) (xa_cons (x_own1 T (c_letters_of Y) (by decide) rfl (xa_cons (x_var (pv 1) rfl) (xa_cons (x_var (pv 2) rfl) xa_nil))) xa_nil))) rfl)
  (ss_one (s_ret (x_b1 (v_sum T.calm) n_sum rfl (Y.free 27) hv_sum (w_of (e_of (f_lc (own := [("place", 4), ("bit", 5)]) T (i_gr (i_enum rfl (Y.free 6) (x_var (pv 3) rfl))) (blkOk_by (N := N_Machine_write) (sc := sc_Machine_write) (own := [("place", 4), ("bit", 5)]) (by decide +kernel)) (fun _ _ _ _ _ T1 => (g_tup T1.calm (gs_cons (g_nm (pg_name (i := 4) T1.nd rfl (Or.inl rfl)) rfl) (gs_cons (g_nm (pg_name (i := 5) T1.nd rfl (Or.inl rfl)) rfl) gs_nil)))) (fun _ _ _ _ _ T1 => ts_nil) (fun _ _ _ _ _ T1 => (x_bin y_shl n_shl (w_of (x_var (pv 5) rfl)) (w_of (x_var (pv 4) rfl)))) (by decide)))))))))))
theorem S__law_called : FnScope N__law_called ["machine", "which", "one", "two"] sc__law_called := ⟨rfl, rfl, rfl, by decide +kernel, rfl, by decide +kernel, by decide +kernel⟩
theorem c_law_called (Y : Fs P w K mg) : CallOk P w K mg base 6 "_law_called" d__law_called ["machine", "which", "one", "two"] 4 m_law_called :=
  def_ok (d := d__law_called) (N := N__law_called) (ps := ["machine", "which", "one", "two"]) (p := 4) (m := b__law_called) (k := 5) (ow := ow__law_called) (Y.def_ 18) (Y.glo 47) S__law_called rfl rfl (by decide) (fun _ _ _ _ _ _ us hl => match us, hl with | [_, _, _, _], _ => rfl) (fun cdv A outer s H E T => (ss_cons (s_if (t_cmp T.eq n_eq b_eq (w_of (x_var (pv 1) rfl)) (w_of x_int) rfl) (ss_one (s_ret (x_meth (mn := "led") rfl T (c_Machine_led Y) (by decide) (fun _ _ _ _ _ h => h) (x_var (pv 0) rfl) (xa_cons (x_var (pv 2) rfl) (xa_cons (x_var (pv 3) rfl) xa_nil))))) ss_nil)
  (ss_cons (s_if (t_cmp T.eq n_eq b_eq (w_of (x_var (pv 1) rfl)) (w_of x_int) rfl) (ss_one (s_ret (x_meth (mn := "bits_written") rfl T (c_Machine_bits_written Y) (by decide) (fun _ _ _ _ _ h => h) (x_var (pv 0) rfl) (xa_cons (x_var (pv 3) rfl) xa_nil)))) ss_nil)
  (ss_one (s_ret (x_meth (mn := "write") rfl T (c_Machine_write Y) (by decide) (fun _ _ _ _ _ h => h) (x_var (pv 0) rfl) (xa_cons (x_var (pv 2) rfl) (xa_cons (x_var (pv 3) rfl) xa_nil))))))))
theorem S__law_refused : FnScope N__law_refused ["machine", "which", "one", "two", "first"] sc__law_refused := ⟨rfl, rfl, rfl, by decide +kernel, rfl, by decide +kernel, by decide +kernel⟩
theorem c_law_refused (Y : Fs P w K mg) : CallOk P w K mg base 14 "_law_refused" d__law_refused ["machine", "which", "one", "two", "first"] 5 m_law_refused :=
  def_ok (d := d__law_refused) (N := N__law_refused) (ps := ["machine", "which", "one", "two", "first"]) (p := 5) (m := b__law_refused) (k := 13) (ow := ow__law_refused) (Y.def_ 19) (Y.glo 48) S__law_refused rfl rfl (by decide) (fun _ _ _ _ _ _ us hl => match us, hl with | [_, _, _, _, _], _ => rfl) (fun cdv A outer s H E T => (ss_cons (s_try (es := ES) (all := EALL) (fl := EFL) (i := 5) T (ers_ok (Y.more 4)) (Y.glo 24) rfl rfl rfl rfl rfl
  (fun _ _ _ T1 => (bs_one (b_drop (ps_expr (x_own1 T1 (c_law_called Y) (by decide) rfl (xa_cons (x_var (pv 0) rfl) (xa_cons (x_var (pv 1) rfl) (xa_cons (x_var (pv 2) rfl) (xa_cons (x_var (pv 3) rfl) xa_nil)))))))))
  (fun _ _ c_e _ fs_e _ hc_e hz_e hv_e T2 => (ss_cons (s_if (t_tst (w_of (x_xisT (es := ES) (all := EALL) (fl := EFL) (ers_ok (Y.more 4)) hc_e hz_e hv_e rfl rfl (Y.free 2) (pv 5) (XcL.cons (t := "InvalidMachine") (xc_glob (t := "InvalidMachine") (by decide) rfl (Y.glo 10)) (XcL.cons (t := "InvalidRow") (xc_glob (t := "InvalidRow") (by decide) rfl (Y.glo 11)) (XcL.cons (t := "InvalidMarks") (xc_glob (t := "InvalidMarks") (by decide) rfl (Y.glo 12)) (XcL.cons (t := "InvalidKind") (xc_glob (t := "InvalidKind") (by decide) rfl (Y.glo 13)) (XcL.cons (t := "InvalidPrimes") (xc_glob (t := "InvalidPrimes") (by decide) rfl (Y.glo 14)) (XcL.cons (t := "InvalidText") (xc_glob (t := "InvalidText") (by decide) rfl (Y.glo 15)) XcL.nil rfl) rfl) rfl) rfl) rfl) rfl) (by decide))) (by intro _; rfl)) (ss_one (s_ret x_bl)) ss_nil)
  (ss_cons (s_if (PW.pt (t_or (t_tst (w_of (x_xisT (es := ES) (all := EALL) (fl := EFL) (ers_ok (Y.more 4)) hc_e hz_e hv_e rfl rfl (Y.free 2) (pv 5) (XcL.cons (t := "InvalidCommand") (xc_glob (t := "InvalidCommand") (by decide) rfl (Y.glo 16)) (XcL.cons (t := "Undefined") (xc_glob (t := "Undefined") (by decide) rfl (Y.glo 17)) (XcL.cons (t := "NothingToDo") (xc_glob (t := "NothingToDo") (by decide) rfl (Y.glo 18)) (XcL.cons (t := "NothingKept") (xc_glob (t := "NothingKept") (by decide) rfl (Y.glo 19)) XcL.nil rfl) rfl) rfl) rfl) (by decide))) (by intro _; rfl)) (t_or1 (t_not (t_tst (w_of (x_xis1 (t := "ValueError") (es := ES) (all := EALL) (fl := EFL) (ers_ok (Y.more 4)) hc_e hz_e hv_e rfl rfl (Y.free 2) (pv 5) (xc_ve rfl (Y.free 20)))) (by intro _; rfl)))))) (ss_one (s_ret x_bl)) ss_nil)
  (ss_cons (s_if (PW.pt (t_or (t_cmp T2.ne n_ne b_ne (w_of (x_xis1 (t := "InvalidNumber") (es := ES) (all := EALL) (fl := EFL) (ers_ok (Y.more 4)) hc_e hz_e hv_e rfl rfl (Y.free 2) (pv 5) (xc_glob (t := "InvalidNumber") (by decide) rfl (Y.glo 21)))) (w_of (x_var (pv 4) rfl)) rfl) (t_or1 (t_cmp T2.ne n_ne b_ne (w_of (x_xis1 (t := "InvalidReading") (es := ES) (all := EALL) (fl := EFL) (ers_ok (Y.more 4)) hc_e hz_e hv_e rfl rfl (Y.free 2) (pv 5) (xc_glob (t := "InvalidReading") (by decide) rfl (Y.glo 22)))) (w_of (x_and (x_not (x_var (pv 4) rfl)) (x_one (x_cmp y_lt n_lt (w_of (x_var (pv 1) rfl)) (w_of x_int) rfl)))) rfl)))) (ss_one (s_ret x_bl)) ss_nil)
  (ss_cons (s_if (t_cmp T2.ne n_ne b_ne (w_of (x_xis1 (t := "InvalidWords") (es := ES) (all := EALL) (fl := EFL) (ers_ok (Y.more 4)) hc_e hz_e hv_e rfl rfl (Y.free 2) (pv 5) (xc_glob (t := "InvalidWords") (by decide) rfl (Y.glo 23)))) (w_of (x_and (x_not (x_var (pv 4) rfl)) (x_one (x_cmp T2.eq n_eq (w_of (x_var (pv 1) rfl)) (w_of x_int) rfl)))) rfl) (ss_one (s_ret x_bl)) ss_nil)
  (ss_cons (s_if (t_tst (w_of (x_var (pv 4) rfl)) (by intro _; rfl)) (ss_one (s_ret (x_own1H T2 (cH_law_alike Y 12) (by decide) rfl (xa_cons (x_xfld (es := ES) (all := EALL) (fl := EFL) (ers_ok (Y.more 4)) hc_e hz_e hv_e (pv 5)) (xa_cons (x_var (pv 2) rfl) xa_nil))))) ss_nil)
  (ss_one (s_ret (x_own1H T2 (cH_law_alike Y 12) (by decide) rfl (xa_cons (x_xfld (es := ES) (all := EALL) (fl := EFL) (ers_ok (Y.more 4)) hc_e hz_e hv_e (pv 5)) (xa_cons (x_var (pv 3) rfl) xa_nil))))))))))))
  (ss_one (s_ret x_bl))))
theorem S__law_calls_refused : FnScope N__law_calls_refused ["machine", "states", "letters", "draws"] sc__law_calls_refused := ⟨rfl, rfl, rfl, by decide +kernel, rfl, by decide +kernel, by decide +kernel⟩
theorem c_law_calls_refused (Y : Fs P w K mg) : CallOk P w K mg base 15 "_law_calls_refused" d__law_calls_refused ["machine", "states", "letters", "draws"] 4 m_law_calls_refused :=
  def_ok (d := d__law_calls_refused) (N := N__law_calls_refused) (ps := ["machine", "states", "letters", "draws"]) (p := 4) (m := b__law_calls_refused) (k := 14) (ow := ow__law_calls_refused) (oN := owS []) (oB := owS []) (Y.def_ 20) (Y.glo 49) S__law_calls_refused rfl rfl (by decide) (fun _ _ _ _ _ _ us hl => match us, hl with | [_, _, _, _], _ => rfl) (fun cdv A outer s H E T => (c_cons (o1 := owS []) (s_up (s_set (ps_set (i := 4) T.nd rfl (Or.inl rfl) (x_attr (att_ok (Y.more 1)) (w_of (x_var (pv 0) rfl)))) rfl) (owS_le (by decide)) (by decide))
  (c_cons (o1 := owS []) (s_up (s_set (ps_set (i := 5) T.nd rfl (Or.inl rfl) (x_bin y_shl n_shl (w_of x_int) (w_of (x_var (pv 4) rfl)))) rfl) (owS_le (by decide)) (by decide))
  (c_cons (o1 := owS []) (s_up (s_set (ps_set (i := 6) T.nd rfl (Or.inl rfl) (x_idx (w_of (e_of (f_lst (xa_cons (x_un y_neg n_neg (w_of x_int)) (xa_cons (x_var (pv 1) rfl) (xa_cons (x_bin y_add n_add (w_of (x_var (pv 1) rfl)) (w_of (x_idx (w_of (x_var (pv 3) rfl)) (w_of x_int)))) (xa_cons x_bl (xa_cons x_bl (xa_cons x_non (xa_cons (x_str (s := "0")) (xa_cons (x_tup (xa_cons x_int xa_nil)) (xa_cons (e_of (f_lst (xa_cons x_int xa_nil))) (xa_cons (x_un y_neg n_neg (w_of (x_bin y_pow n_pow (w_of x_int) (w_of x_int)))) xa_nil))))))))))))) (w_of (x_idx (w_of (x_var (pv 3) rfl)) (w_of x_int))))) rfl) (owS_le (by decide)) (by decide))
  (c_cons (o1 := owS []) (s_up (s_set (ps_set (i := 7) T.nd rfl (Or.inl rfl) (x_bin y_mod n_mod (w_of (x_idx (w_of (x_var (pv 3) rfl)) (w_of x_int))) (w_of (x_b1 v_len n_len rfl (Y.free 3) hv_len (w_of (x_var (pv 2) rfl)))))) rfl) (owS_le (by decide)) (by decide))
  (c_cons (o1 := owS []) (s_up (s_set (ps_set (i := 8) T.nd rfl (Or.inl rfl) (x_idx (w_of (e_of (f_lst (xa_cons (x_un y_neg n_neg (w_of x_int)) (xa_cons (x_var (pv 5) rfl) (xa_cons (x_bin y_add n_add (w_of (x_var (pv 5) rfl)) (w_of (x_idx (w_of (x_var (pv 3) rfl)) (w_of x_int)))) (xa_cons x_bl (xa_cons x_bl (xa_cons x_non (xa_cons (x_str (s := "0")) (xa_cons (x_tup (xa_cons x_int xa_nil)) xa_nil))))))))))) (w_of (x_idx (w_of (x_var (pv 3) rfl)) (w_of x_int))))) rfl) (owS_le (by decide)) (by decide))
  (c_cons (o1 := owS []) (s_up (s_set (ps_set (i := 9) T.nd rfl (Or.inl rfl) (x_bin y_add n_add (w_of (x_bin y_add n_add (w_of (x_t1 v_tuple n_tuple rfl (Y.free 0) hv_tuple (w_of (x_slc (w_of (x_var (pv 2) rfl)) o_none (o_some (x_var (pv 7) rfl)))))) (w_of (x_tup (xa_cons (x_var (pv 8) rfl) xa_nil))))) (w_of (x_t1 v_tuple n_tuple rfl (Y.free 0) hv_tuple (w_of (x_slc (w_of (x_var (pv 2) rfl)) (o_some (x_bin y_add n_add (w_of (x_var (pv 7) rfl)) (w_of x_int))) o_none)))))) rfl) (owS_le (by decide)) (by decide))
  (c_cons (o1 := owS []) (c_if (t_cmp T.eq n_eq b_eq (w_of (x_idx (w_of (x_var (pv 3) rfl)) (w_of x_int))) (w_of x_int) rfl) (c_one (s_up (s_set (ps_set (i := 9) T.nd rfl (Or.inl rfl) (x_idx (w_of (e_of (f_lst (xa_cons (e_of (f_list rfl rfl (Y.free 1) (w_of (x_var (pv 2) rfl)))) (xa_cons x_non (xa_cons x_int (xa_cons (x_str (s := "01")) (xa_cons (x_tup (xa_cons (x_t1 v_tuple n_tuple rfl (Y.free 0) hv_tuple (w_of (x_var (pv 2) rfl))) (xa_cons x_int xa_nil))) xa_nil)))))))) (w_of (x_bin y_mod n_mod (w_of (x_idx (w_of (x_var (pv 3) rfl)) (w_of x_int))) (w_of x_int))))) rfl) (owS_le (by decide)) (by decide))) (c_cut (o1 := owS []) c_nil (owS_le (by decide)) (by decide)))
  (c_cons (o1 := owS []) (c_if (PW.pt (t_or (t_not (t_tst (w_of (x_own1 T (c_law_refused Y) (by decide) rfl (xa_cons (x_var (pv 0) rfl) (xa_cons x_int (xa_cons (x_var (pv 6) rfl) (xa_cons (x_t1 v_tuple n_tuple rfl (Y.free 0) hv_tuple (w_of (x_var (pv 2) rfl))) (xa_cons x_bl xa_nil))))))) (by intro _; rfl))) (t_or1 (t_not (t_tst (w_of (x_own1 T (c_law_refused Y) (by decide) rfl (xa_cons (x_var (pv 0) rfl) (xa_cons x_int (xa_cons (x_var (pv 6) rfl) (xa_cons (x_var (pv 9) rfl) (xa_cons x_bl xa_nil))))))) (by intro _; rfl)))))) (c_one (s_up (s_ret x_bl) (owS_le (by decide)) (by decide))) (c_cut (o1 := owS []) c_nil (owS_le (by decide)) (by decide)))
  (c_cons (o1 := owS []) (c_if (PW.pt (t_or (t_not (t_tst (w_of (x_own1 T (c_law_refused Y) (by decide) rfl (xa_cons (x_var (pv 0) rfl) (xa_cons x_int (xa_cons (x_bin y_sub n_sub (w_of (x_var (pv 1) rfl)) (w_of x_int)) (xa_cons (x_var (pv 9) rfl) (xa_cons x_bl xa_nil))))))) (by intro _; rfl))) (t_or1 (t_not (t_tst (w_of (x_own1 T (c_law_refused Y) (by decide) rfl (xa_cons (x_var (pv 0) rfl) (xa_cons x_int (xa_cons x_int (xa_cons (x_var (pv 9) rfl) (xa_cons x_bl xa_nil))))))) (by intro _; rfl)))))) (c_one (s_up (s_ret x_bl) (owS_le (by decide)) (by decide))) (c_cut (o1 := owS []) c_nil (owS_le (by decide)) (by decide)))
  (c_cons (o1 := owS []) (s_up (s_set (ps_set (i := 10) T.nd rfl (Or.inl rfl) (x_b1 v_len n_len rfl (Y.free 3) hv_len (w_of (x_var (pv 2) rfl)))) rfl) (owS_le (by decide)) (by decide))
  (c_cons (o1 := owS []) (s_up (s_set (ps_set (i := 11) T.nd rfl (Or.inl rfl) (e_of (f_rep (f_lst (xa_cons x_int xa_nil)) (w_of (x_var (pv 4) rfl))))) rfl) (owS_le (by decide)) (by decide))
  (c_cons (o1 := owS []) (s_up (s_set (ps_set (i := 7) T.nd rfl (Or.inl rfl) (x_bin y_mod n_mod (w_of (x_idx (w_of (x_var (pv 3) rfl)) (w_of x_int))) (w_of (x_var (pv 4) rfl)))) rfl) (owS_le (by decide)) (by decide))
  (c_cons (o1 := owS [12]) (c_own (ps_set (i := 12) T.nd rfl (Or.inl rfl) (f_list rfl rfl (Y.free 1) (w_of (x_var (pv 11) rfl)))) rfl (owS_add (by decide)))
  (c_cons (o1 := owS [12]) (s_up (s_setL (i := 12) (ps_asg (x_idx (w_of (e_of (f_lst (xa_cons (x_un y_neg n_neg (w_of x_int)) (xa_cons (x_bin y_shl n_shl (w_of x_int) (w_of (x_var (pv 10) rfl))) (xa_cons (x_bin y_add n_add (w_of (x_bin y_shl n_shl (w_of x_int) (w_of (x_var (pv 10) rfl)))) (w_of (x_idx (w_of (x_var (pv 3) rfl)) (w_of x_int)))) (xa_cons x_bl (xa_cons x_bl (xa_cons x_non (xa_cons (x_str (s := "0")) (xa_cons (x_tup (xa_cons x_int xa_nil)) xa_nil))))))))))) (w_of (x_idx (w_of (x_var (pv 3) rfl)) (w_of x_int)))) (pg_sub (pv 12) (x_var (pv 7) rfl) set_list)) rfl) (owS_le (by decide)) (by decide))
  (c_cut (o1 := owS []) (c_cons (o1 := owS []) (c_if (t_cmp T.eq n_eq b_eq (w_of (x_idx (w_of (x_var (pv 3) rfl)) (w_of x_int))) (w_of x_int) rfl) (c_one (s_up (s_set (ps_set (i := 12) T.nd rfl (Or.inl rfl) (x_idx (w_of (e_of (f_lst (xa_cons (x_bin y_add n_add (w_of (x_var (pv 11) rfl)) (w_of (e_of (f_lst (xa_cons x_int xa_nil))))) (xa_cons (x_t1 v_tuple n_tuple rfl (Y.free 0) hv_tuple (w_of (x_slc (w_of (x_var (pv 11) rfl)) (o_some x_int) o_none))) (xa_cons x_non (xa_cons x_int (xa_cons (x_str (s := "0")) xa_nil)))))))) (w_of (x_bin y_mod n_mod (w_of (x_idx (w_of (x_var (pv 3) rfl)) (w_of x_int))) (w_of x_int))))) rfl) (owS_le (by decide)) (by decide))) (c_cut (o1 := owS []) c_nil (owS_le (by decide)) (by decide)))
  (c_cons (o1 := owS []) (s_up (s_set (ps_set (i := 13) T.nd rfl (Or.inl rfl) (x_idx (w_of (e_of (f_lst (xa_cons (x_un y_neg n_neg (w_of x_int)) (xa_cons x_bl (xa_cons x_bl (xa_cons x_non (xa_cons (x_str (s := "3")) (xa_cons (x_tup (xa_cons x_int xa_nil)) (xa_cons (e_of (f_lst (xa_cons x_int xa_nil))) (xa_cons (x_un y_neg n_neg (w_of (x_bin y_pow n_pow (w_of x_int) (w_of x_int)))) xa_nil))))))))))) (w_of (x_bin y_mod n_mod (w_of (x_idx (w_of (x_var (pv 3) rfl)) (w_of x_int))) (w_of x_int))))) rfl) (owS_le (by decide)) (by decide))
  (c_cons (o1 := owS []) (c_if (PW.pt (t_or (t_not (t_tst (w_of (x_own1 T (c_law_refused Y) (by decide) rfl (xa_cons (x_var (pv 0) rfl) (xa_cons x_int (xa_cons (x_var (pv 13) rfl) (xa_cons (x_t1 v_tuple n_tuple rfl (Y.free 0) hv_tuple (w_of (x_var (pv 11) rfl))) (xa_cons x_bl xa_nil))))))) (by intro _; rfl))) (t_or1 (t_not (t_tst (w_of (x_own1 T (c_law_refused Y) (by decide) rfl (xa_cons (x_var (pv 0) rfl) (xa_cons x_int (xa_cons (x_var (pv 13) rfl) (xa_cons (x_var (pv 12) rfl) (xa_cons x_bl xa_nil))))))) (by intro _; rfl)))))) (c_one (s_up (s_ret x_bl) (owS_le (by decide)) (by decide))) (c_cut (o1 := owS []) c_nil (owS_le (by decide)) (by decide)))
  (c_cons (o1 := owS []) (s_up (s_for T.po T.calm (i_seq (e_of (f_lst (xa_cons (x_var (pv 12) rfl) (xa_cons (x_bin y_add n_add (w_of (x_var (pv 11) rfl)) (w_of (e_of (f_lst (xa_cons x_int xa_nil))))) (xa_cons (x_slc (w_of (x_var (pv 11) rfl)) (o_some x_int) o_none) (xa_cons (x_bin y_add n_add (w_of (x_bin y_add n_add (w_of (x_slc (w_of (x_var (pv 11) rfl)) o_none (o_some (x_var (pv 7) rfl)))) (w_of (e_of (f_lst (xa_cons (x_bin y_shl n_shl (w_of x_int) (w_of (x_var (pv 10) rfl))) xa_nil)))))) (w_of (x_slc (w_of (x_var (pv 11) rfl)) (o_some (x_bin y_add n_add (w_of (x_var (pv 7) rfl)) (w_of x_int))) o_none))) xa_nil))))))) (g_nm (pg_name (i := 14) T.nd rfl (Or.inl rfl)) rfl) (c_one (c_if (t_not (t_tst (w_of (x_own1 T (c_law_refused Y) (by decide) rfl (xa_cons (x_var (pv 0) rfl) (xa_cons x_int (xa_cons (x_var (pv 10) rfl) (xa_cons (x_var (pv 14) rfl) (xa_cons x_bl xa_nil))))))) (by intro _; rfl))) (c_one (s_up (s_ret x_bl) (owS_le (by decide)) (by decide))) (c_cut (o1 := owS []) c_nil (owS_le (by decide)) (by decide))))) (owS_le (by decide)) (by decide))
  (c_one (s_up (s_ret (x_own1 T (c_law_integer Y) (by decide) rfl (xa_cons (x_meth (mn := "led") rfl T (c_Machine_led Y) (by decide) (fun _ _ _ _ _ h => h) (x_var (pv 0) rfl) (xa_cons (x_bin y_sub n_sub (w_of (x_var (pv 1) rfl)) (w_of x_int)) (xa_cons (x_tup xa_nil) xa_nil))) (xa_cons (x_bin y_sub n_sub (w_of (x_var (pv 1) rfl)) (w_of x_int)) xa_nil)))) (owS_le (by decide)) (by decide))))))) (owS_le (by decide)) (by decide)))))))))))))))))
theorem S__law_cell : FnScope N__law_cell ["script", "k"] sc__law_cell := ⟨rfl, rfl, rfl, by decide +kernel, rfl, by decide +kernel, by decide +kernel⟩
theorem c_law_cell (Y : Fs P w K mg) : CallOk P w K mg base 1 "_law_cell" d__law_cell ["script", "k"] 2 m_law_cell :=
  def_ok (d := d__law_cell) (N := N__law_cell) (ps := ["script", "k"]) (p := 2) (m := b__law_cell) (k := 0) (ow := ow__law_cell) (Y.def_ 21) (Y.glo 50) S__law_cell rfl rfl (by decide) (fun _ _ _ _ _ _ us hl => match us, hl with | [_, _], _ => rfl) (fun cdv A outer s H E T => (ss_cons (s_if (t_cmp y_lt n_lt b_lt (w_of (x_var (pv 1) rfl)) (w_of (x_b1 v_len n_len rfl (Y.free 3) hv_len (w_of (x_var (pv 0) rfl)))) rfl) (ss_one (s_ret (x_idx (w_of (x_var (pv 0) rfl)) (w_of (x_var (pv 1) rfl))))) ss_nil)
  (ss_cons (s_if (t_cmp y_gt n_gt b_gt (w_of (x_b1 v_len n_len rfl (Y.free 3) hv_len (w_of (x_var (pv 0) rfl)))) (w_of x_int) rfl) (ss_one (s_ret (x_bin y_add n_add (w_of (x_bin y_mod n_mod (w_of (x_t1 v_int n_int rfl (Y.free 4) hv_int (w_of (x_idx (w_of (x_var (pv 0) rfl)) (w_of (x_bin y_mod n_mod (w_of (x_var (pv 1) rfl)) (w_of (x_b1 v_len n_len rfl (Y.free 3) hv_len (w_of (x_var (pv 0) rfl)))))))))) (w_of x_int))) (w_of (x_bin y_mul n_mul (w_of x_int) (w_of (x_var (pv 1) rfl))))))) ss_nil)
  (ss_one (s_ret (x_bin y_add n_add (w_of (x_bin y_mul n_mul (w_of x_int) (w_of (x_var (pv 1) rfl)))) (w_of x_int)))))))
theorem S__law_mixed : FnScope N__law_mixed ["cell", "k"] sc__law_mixed := ⟨rfl, rfl, rfl, by decide +kernel, rfl, by decide +kernel, by decide +kernel⟩
theorem c_law_mixed (Y : Fs P w K mg) : CallOk P w K mg base 1 "_law_mixed" d__law_mixed ["cell", "k"] 2 m_law_mixed :=
  def_ok (d := d__law_mixed) (N := N__law_mixed) (ps := ["cell", "k"]) (p := 2) (m := b__law_mixed) (k := 0) (ow := ow__law_mixed) (Y.def_ 22) (Y.glo 51) S__law_mixed rfl rfl (by decide) (fun _ _ _ _ _ _ us hl => match us, hl with | [_, _], _ => rfl) (fun cdv A outer s H E T => (ss_cons (s_set (ps_set (i := 2) T.nd rfl (Or.inl rfl) (x_bin y_mod n_mod (w_of (x_t1 v_int n_int rfl (Y.free 4) hv_int (w_of (x_bin y_add n_add (w_of (x_bin y_add n_add (w_of (x_bin y_mul n_mul (w_of (x_var (pv 0) rfl)) (w_of x_int))) (w_of (x_bin y_mul n_mul (w_of (x_var (pv 1) rfl)) (w_of x_int))))) (w_of x_int))))) (w_of x_int))) rfl)
  (ss_cons (s_set (ps_set (i := 3) T.nd rfl (Or.inl rfl) (x_bin y_mod n_mod (w_of (x_t1 v_int n_int rfl (Y.free 4) hv_int (w_of (x_bin y_add n_add (w_of (x_bin y_mul n_mul (w_of (x_var (pv 2) rfl)) (w_of (x_var (pv 2) rfl)))) (w_of x_int))))) (w_of x_int))) rfl)
  (ss_one (s_ret (x_bin y_fdiv n_fdiv (w_of (x_bin y_mod n_mod (w_of (x_t1 v_int n_int rfl (Y.free 4) hv_int (w_of (x_bin y_mul n_mul (w_of (x_var (pv 3) rfl)) (w_of (x_bin y_add n_add (w_of (x_bin y_mod n_mod (w_of (x_var (pv 3) rfl)) (w_of x_int))) (w_of x_int))))))) (w_of x_int))) (w_of x_int)))))))
theorem S__law_draws : FnScope N__law_draws ["cell", "sizes"] sc__law_draws := ⟨rfl, rfl, rfl, by decide +kernel, rfl, by decide +kernel, by decide +kernel⟩
theorem c_law_draws (Y : Fs P w K mg) : CallOk P w K mg base 2 "_law_draws" d__law_draws ["cell", "sizes"] 2 m_law_draws :=
  def_ok (d := d__law_draws) (N := N__law_draws) (ps := ["cell", "sizes"]) (p := 2) (m := b__law_draws) (k := 1) (ow := ow__law_draws) (oN := owS []) (oB := owS []) (Y.def_ 23) (Y.glo 52) S__law_draws rfl rfl (by decide) (fun _ _ _ _ _ _ us hl => match us, hl with | [_, _], _ => rfl) (fun cdv A outer s H E T => (c_cons (o1 := owS [2]) (c_own (ps_set (i := 2) T.nd rfl (Or.inl rfl) (f_lst xa_nil)) rfl (owS_add (by decide)))
  (c_cons (o1 := owS [2]) (s_up (s_set (ps_set (i := 3) T.nd rfl (Or.inl rfl) (x_var (pv 0) rfl)) rfl) (owS_le (by decide)) (by decide))
  (c_cons (o1 := owS [2]) (s_up (s_for T.po T.calm (i_rng1 rfl (Y.free 9) (x_b1 v_len n_len rfl (Y.free 3) hv_len (w_of (x_var (pv 1) rfl)))) (g_nm (pg_name (i := 4) T.nd rfl (Or.inl rfl)) rfl) (c_one (c_if (PW.pt (t_and (t_cmp y_ge n_ge b_ge (w_of (x_var (pv 0) rfl)) (w_of (x_bin y_pow n_pow (w_of x_int) (w_of x_int))) rfl) (t_and (t_cmp y_lt n_lt b_lt (w_of (x_var (pv 4) rfl)) (w_of x_int) rfl) (t_and1 (t_cmp y_gt n_gt b_gt (w_of (x_var (pv 3) rfl)) (w_of x_int) rfl))))) (c_cons (o1 := owS [2]) (s_up (s_app1 (i := 2) (pv 2) (x_bin y_mod n_mod (w_of (x_t1 v_int n_int rfl (Y.free 4) hv_int (w_of (x_var (pv 3) rfl)))) (w_of (x_idx (w_of (x_var (pv 1) rfl)) (w_of (x_var (pv 4) rfl))))) rfl) (owS_le (by decide)) (by decide))
  (c_one (s_up (s_set (ps_set (i := 3) T.nd rfl (Or.inl rfl) (x_bin y_fdiv n_fdiv (w_of (x_var (pv 3) rfl)) (w_of (x_idx (w_of (x_var (pv 1) rfl)) (w_of (x_var (pv 4) rfl)))))) rfl) (owS_le (by decide)) (by decide)))) (c_one (s_up (s_app1 (i := 2) (pv 2) (x_bin y_mod n_mod (w_of (x_own1 T (c_law_mixed Y) (by decide) rfl (xa_cons (x_var (pv 0) rfl) (xa_cons (x_var (pv 4) rfl) xa_nil)))) (w_of (x_idx (w_of (x_var (pv 1) rfl)) (w_of (x_var (pv 4) rfl))))) rfl) (owS_le (by decide)) (by decide)))))) (owS_le (by decide)) (by decide))
  (c_cut (o1 := owS []) (c_one (s_up (s_ret (x_var (pv 2) rfl)) (owS_le (by decide)) (by decide))) (owS_le (by decide)) (by decide))))))
theorem S__law_in_range : FnScope N__law_in_range ["thing", "low", "high"] sc__law_in_range := ⟨rfl, rfl, rfl, by decide +kernel, rfl, by decide +kernel, by decide +kernel⟩
theorem c_law_in_range (Y : Fs P w K mg) : CallOk P w K mg base 1 "_law_in_range" d__law_in_range ["thing", "low", "high"] 3 m_law_in_range :=
  def_ok (d := d__law_in_range) (N := N__law_in_range) (ps := ["thing", "low", "high"]) (p := 3) (m := b__law_in_range) (k := 0) (ow := ow__law_in_range) (Y.def_ 24) (Y.glo 53) S__law_in_range rfl rfl (by decide) (fun _ _ _ _ _ _ us hl => match us, hl with | [_, _, _], _ => rfl) (fun cdv A outer s H E T => (ss_one (s_ret (x_and (x_isi1 (cs := CS) (t := .int) rfl (kit_of_b (Y.more 0)) rfl (Y.free 2) (w_of (x_var (pv 0) rfl)) (pe_bltn rfl (Y.free 4) hv_int rfl)) (x_and (x_not (x_isi1 (cs := CS) (t := .bl) rfl (kit_of_b (Y.more 0)) rfl (Y.free 2) (w_of (x_var (pv 0) rfl)) (pe_bltn rfl (Y.free 5) hv_bool rfl))) (x_one (x_chain y_le y_le n_le n_le (w_of (x_var (pv 1) rfl)) (w_of (x_var (pv 0) rfl)) (w_of (x_var (pv 2) rfl)))))))))
theorem S__law_first_wrong : FnScope N__law_first_wrong ["table", "wide", "top"] sc__law_first_wrong := ⟨rfl, rfl, rfl, by decide +kernel, rfl, by decide +kernel, by decide +kernel⟩
theorem c_law_first_wrong (Y : Fs P w K mg) : CallOk P w K mg base 2 "_law_first_wrong" d__law_first_wrong ["table", "wide", "top"] 3 m_law_first_wrong :=
  def_ok (d := d__law_first_wrong) (N := N__law_first_wrong) (ps := ["table", "wide", "top"]) (p := 3) (m := b__law_first_wrong) (k := 1) (ow := ow__law_first_wrong) (Y.def_ 25) (Y.glo 54) S__law_first_wrong rfl rfl (by decide) (fun _ _ _ _ _ _ us hl => match us, hl with | [_, _, _], _ => rfl) (fun cdv A outer s H E T => (ss_cons (s_for T.po T.calm (i_rng1 rfl (Y.free 9) (x_b1 v_len n_len rfl (Y.free 3) hv_len (w_of (x_var (pv 0) rfl)))) (g_nm (pg_name (i := 3) T.nd rfl (Or.inl rfl)) rfl) (ss_cons (s_if (PW.pt (t_or (t_not (t_tst (w_of (x_isi1 (cs := CS) (t := .tup) rfl (kit_of_b (Y.more 0)) rfl (Y.free 2) (w_of (x_idx (w_of (x_var (pv 0) rfl)) (w_of (x_var (pv 3) rfl)))) (pe_bltn rfl (Y.free 0) hv_tuple rfl))) (by intro _; rfl))) (t_or1 (t_cmp T.ne n_ne b_ne (w_of (x_b1 v_len n_len rfl (Y.free 3) hv_len (w_of (x_idx (w_of (x_var (pv 0) rfl)) (w_of (x_var (pv 3) rfl)))))) (w_of (x_var (pv 1) rfl)) rfl)))) (ss_one (s_ret (x_var (pv 3) rfl))) ss_nil)
  (ss_one (s_for T.po T.calm (i_seq (x_idx (w_of (x_var (pv 0) rfl)) (w_of (x_var (pv 3) rfl)))) (g_nm (pg_name (i := 4) T.nd rfl (Or.inl rfl)) rfl) (ss_one (s_if (t_not (t_tst (w_of (x_own1 T (c_law_in_range Y) (by decide) rfl (xa_cons (x_var (pv 4) rfl) (xa_cons x_int (xa_cons (x_bin y_sub n_sub (w_of (x_var (pv 2) rfl)) (w_of x_int)) xa_nil))))) (by intro _; rfl))) (ss_one (s_ret (x_var (pv 3) rfl))) ss_nil))))))
  (ss_one (s_ret (x_un y_neg n_neg (w_of x_int))))))
theorem S__law_fault : FnScope N__law_fault ["inputs", "nexts", "outs"] sc__law_fault := ⟨rfl, rfl, rfl, by decide +kernel, rfl, by decide +kernel, by decide +kernel⟩
theorem c_law_fault (Y : Fs P w K mg) : CallOk P w K mg base 3 "_law_fault" d__law_fault ["inputs", "nexts", "outs"] 3 m_law_fault :=
  def_ok (d := d__law_fault) (N := N__law_fault) (ps := ["inputs", "nexts", "outs"]) (p := 3) (m := b__law_fault) (k := 2) (ow := ow__law_fault) (Y.def_ 26) (Y.glo 55) S__law_fault rfl rfl (by decide) (fun _ _ _ _ _ _ us hl => match us, hl with | [_, _, _], _ => rfl) (fun cdv A outer s H E T => (ss_cons (s_if (t_not (t_tst (w_of (x_own1 T (c_law_in_range Y) (by decide) rfl (xa_cons (x_var (pv 0) rfl) (xa_cons x_int (xa_cons x_int xa_nil))))) (by intro _; rfl))) (ss_one (s_ret (x_tup (xa_cons (x_str (s := "inputs")) (xa_cons x_int xa_nil))))) ss_nil)
  (ss_cons (s_if (PW.pt (t_or (t_not (t_tst (w_of (x_isiT (cs := CS) (ts := [.lst, .tup]) rfl (kit_of_b (Y.more 0)) rfl (Y.free 2) (w_of (x_var (pv 1) rfl)) (TyL.cons (t := .lst) (pe_bltn rfl (Y.free 1) hv_list rfl) (TyL.cons (t := .tup) (pe_bltn rfl (Y.free 0) hv_tuple rfl) TyL.nil rfl) rfl) (by decide))) (by intro _; rfl))) (t_or1 (t_cmp T.eq n_eq b_eq (w_of (x_b1 v_len n_len rfl (Y.free 3) hv_len (w_of (x_var (pv 1) rfl)))) (w_of x_int) rfl)))) (ss_one (s_ret (x_tup (xa_cons (x_str (s := "nexts")) (xa_cons x_int xa_nil))))) ss_nil)
  (ss_cons (s_set (ps_set (i := 3) T.nd rfl (Or.inl rfl) (x_own1 T (c_law_first_wrong Y) (by decide) rfl (xa_cons (x_var (pv 1) rfl) (xa_cons (x_bin y_shl n_shl (w_of x_int) (w_of (x_var (pv 0) rfl))) (xa_cons (x_b1 v_len n_len rfl (Y.free 3) hv_len (w_of (x_var (pv 1) rfl))) xa_nil))))) rfl)
  (ss_cons (s_if (t_cmp y_ge n_ge b_ge (w_of (x_var (pv 3) rfl)) (w_of x_int) rfl) (ss_one (s_ret (x_tup (xa_cons (x_str (s := "nexts")) (xa_cons (x_var (pv 3) rfl) xa_nil))))) ss_nil)
  (ss_cons (s_if (t_not (t_tst (w_of (x_isiT (cs := CS) (ts := [.lst, .tup]) rfl (kit_of_b (Y.more 0)) rfl (Y.free 2) (w_of (x_var (pv 2) rfl)) (TyL.cons (t := .lst) (pe_bltn rfl (Y.free 1) hv_list rfl) (TyL.cons (t := .tup) (pe_bltn rfl (Y.free 0) hv_tuple rfl) TyL.nil rfl) rfl) (by decide))) (by intro _; rfl))) (ss_one (s_ret (x_tup (xa_cons (x_str (s := "outs")) (xa_cons x_int xa_nil))))) ss_nil)
  (ss_cons (s_set (ps_set (i := 3) T.nd rfl (Or.inl rfl) (x_own1 T (c_law_first_wrong Y) (by decide) rfl (xa_cons (x_var (pv 2) rfl) (xa_cons (x_bin y_shl n_shl (w_of x_int) (w_of (x_var (pv 0) rfl))) (xa_cons x_int xa_nil))))) rfl)
  (ss_cons (s_set (ps_set (i := 4) T.nd rfl (Or.inl rfl) (x_b2 (v_min2 T.calm) n_min2 rfl (Y.free 8) hv_min (w_of (x_b1 v_len n_len rfl (Y.free 3) hv_len (w_of (x_var (pv 1) rfl)))) (w_of (x_b1 v_len n_len rfl (Y.free 3) hv_len (w_of (x_var (pv 2) rfl)))))) rfl)
  (ss_cons (s_if (PW.pt (t_and (t_cmp T.ne n_ne b_ne (w_of (x_b1 v_len n_len rfl (Y.free 3) hv_len (w_of (x_var (pv 1) rfl)))) (w_of (x_b1 v_len n_len rfl (Y.free 3) hv_len (w_of (x_var (pv 2) rfl)))) rfl) (t_and1 (PW.pt (t_or (t_cmp y_lt n_lt b_lt (w_of (x_var (pv 3) rfl)) (w_of x_int) rfl) (t_or1 (t_cmp y_gt n_gt b_gt (w_of (x_var (pv 3) rfl)) (w_of (x_var (pv 4) rfl)) rfl))))))) (ss_one (s_set (ps_set (i := 3) T.nd rfl (Or.inl rfl) (x_var (pv 4) rfl)) rfl)) ss_nil)
  (ss_cons (s_if (t_cmp y_ge n_ge b_ge (w_of (x_var (pv 3) rfl)) (w_of x_int) rfl) (ss_one (s_ret (x_tup (xa_cons (x_str (s := "outs")) (xa_cons (x_var (pv 3) rfl) xa_nil))))) ss_nil)
  (ss_one (s_ret x_non))))))))))))
theorem S__law_made_rightly : FnScope N__law_made_rightly ["inputs", "nexts", "outs"] sc__law_made_rightly := ⟨rfl, rfl, rfl, by decide +kernel, rfl, by decide +kernel, by decide +kernel⟩
theorem c_law_made_rightly (Y : Fs P w K mg) : CallOk P w K mg base 14 "_law_made_rightly" d__law_made_rightly ["inputs", "nexts", "outs"] 3 m_law_made_rightly :=
  def_ok (d := d__law_made_rightly) (N := N__law_made_rightly) (ps := ["inputs", "nexts", "outs"]) (p := 3) (m := b__law_made_rightly) (k := 13) (ow := ow__law_made_rightly) (Y.def_ 27) (Y.glo 56) S__law_made_rightly rfl rfl (by decide) (fun _ _ _ _ _ _ us hl => match us, hl with | [_, _, _], _ => rfl) (fun cdv A outer s H E T => (ss_cons (s_set (ps_set (i := 3) T.nd rfl (Or.inl rfl) (x_own1 T (c_law_fault Y) (by decide) rfl (xa_cons (x_var (pv 0) rfl) (xa_cons (x_var (pv 1) rfl) (xa_cons (x_var (pv 2) rfl) xa_nil))))) rfl)
  (ss_cons (s_try (es := ES) (all := EALL) (fl := EFL) (i := 5) T (ers_ok (Y.more 4)) (Y.glo 24) rfl rfl rfl rfl rfl
  (fun _ _ _ T1 => (bs_one (b_set (ps_set (i := 4) T1.nd rfl (Or.inl rfl) (x_new (cls := "Machine") T1 (c_Machine Y) (by decide) rfl (xa_cons (x_var (pv 0) rfl) (xa_cons (x_var (pv 1) rfl) (xa_cons (x_var (pv 2) rfl) xa_nil))))) rfl)))
  (fun _ _ c_e _ fs_e _ hc_e hz_e hv_e T2 => (ss_cons (s_if (PW.pt (t_or (t_isN (w_of (x_var (pv 3) rfl))) (t_or (t_not (t_tst (w_of (x_xis1 (t := "InvalidMachine") (es := ES) (all := EALL) (fl := EFL) (ers_ok (Y.more 4)) hc_e hz_e hv_e rfl rfl (Y.free 2) (pv 5) (xc_glob (t := "InvalidMachine") (by decide) rfl (Y.glo 10)))) (by intro _; rfl))) (t_or1 (t_not (t_tst (w_of (x_xis1 (t := "ValueError") (es := ES) (all := EALL) (fl := EFL) (ers_ok (Y.more 4)) hc_e hz_e hv_e rfl rfl (Y.free 2) (pv 5) (xc_ve rfl (Y.free 20)))) (by intro _; rfl))))))) (ss_one (s_ret x_bl)) ss_nil)
  (ss_cons (s_if (t_tst (w_of (x_xisT (es := ES) (all := EALL) (fl := EFL) (ers_ok (Y.more 4)) hc_e hz_e hv_e rfl rfl (Y.free 2) (pv 5) (XcL.cons (t := "InvalidNumber") (xc_glob (t := "InvalidNumber") (by decide) rfl (Y.glo 21)) (XcL.cons (t := "InvalidWords") (xc_glob (t := "InvalidWords") (by decide) rfl (Y.glo 23)) (XcL.cons (t := "InvalidReading") (xc_glob (t := "InvalidReading") (by decide) rfl (Y.glo 22)) (XcL.cons (t := "InvalidRow") (xc_glob (t := "InvalidRow") (by decide) rfl (Y.glo 11)) (XcL.cons (t := "InvalidMarks") (xc_glob (t := "InvalidMarks") (by decide) rfl (Y.glo 12)) (XcL.cons (t := "InvalidKind") (xc_glob (t := "InvalidKind") (by decide) rfl (Y.glo 13)) XcL.nil rfl) rfl) rfl) rfl) rfl) rfl) (by decide))) (by intro _; rfl)) (ss_one (s_ret x_bl)) ss_nil)
  (ss_cons (s_if (t_tst (w_of (x_xisT (es := ES) (all := EALL) (fl := EFL) (ers_ok (Y.more 4)) hc_e hz_e hv_e rfl rfl (Y.free 2) (pv 5) (XcL.cons (t := "InvalidPrimes") (xc_glob (t := "InvalidPrimes") (by decide) rfl (Y.glo 14)) (XcL.cons (t := "InvalidText") (xc_glob (t := "InvalidText") (by decide) rfl (Y.glo 15)) (XcL.cons (t := "InvalidCommand") (xc_glob (t := "InvalidCommand") (by decide) rfl (Y.glo 16)) (XcL.cons (t := "Undefined") (xc_glob (t := "Undefined") (by decide) rfl (Y.glo 17)) (XcL.cons (t := "NothingToDo") (xc_glob (t := "NothingToDo") (by decide) rfl (Y.glo 18)) (XcL.cons (t := "NothingKept") (xc_glob (t := "NothingKept") (by decide) rfl (Y.glo 19)) XcL.nil rfl) rfl) rfl) rfl) rfl) rfl) (by decide))) (by intro _; rfl)) (ss_one (s_ret x_bl)) ss_nil)
  (ss_one (s_ret (x_and (x_isi1 (cs := CS) (t := .str) rfl (kit_of_b (Y.more 0)) rfl (Y.free 2) (w_of (x_xfld (es := ES) (all := EALL) (fl := EFL) (ers_ok (Y.more 4)) hc_e hz_e hv_e (pv 5))) (pe_bltn rfl (Y.free 26) hv_str rfl)) (x_and (x_cmp T2.eq n_eq (w_of (x_xfld (es := ES) (all := EALL) (fl := EFL) (ers_ok (Y.more 4)) hc_e hz_e hv_e (pv 5))) (w_of (x_idx (w_of (x_var (pv 3) rfl)) (w_of x_int))) rfl) (x_one (x_own1H T2 (cH_law_integer Y) (by decide) rfl (xa_cons (x_xfld (es := ES) (all := EALL) (fl := EFL) (ers_ok (Y.more 4)) hc_e hz_e hv_e (pv 5)) (xa_cons (x_idx (w_of (x_var (pv 3) rfl)) (w_of x_int)) xa_nil)))))))))))))
  (ss_cons (s_if (PW.pt (t_or (t_notN (w_of (x_var (pv 3) rfl))) (t_or (t_not (t_tst (w_of (x_isi1 (cs := CS) (t := (.cls "Machine")) rfl (kit_of_b (Y.more 0)) rfl (Y.free 2) (w_of (x_var (pv 4) rfl)) (pe_glob rfl (Y.glo 25) rfl))) (by intro _; rfl))) (t_or1 (t_not (t_tst (w_of (x_own1 T (c_law_integer Y) (by decide) rfl (xa_cons (x_attr (att_ok (Y.more 1)) (w_of (x_var (pv 4) rfl))) (xa_cons (x_var (pv 0) rfl) xa_nil)))) (by intro _; rfl))))))) (ss_one (s_ret x_bl)) ss_nil)
  (ss_one (s_ret (x_and (x_own1 T (c_law_alike Y 12) (by decide) rfl (xa_cons (x_attr (att_ok (Y.more 2)) (w_of (x_var (pv 4) rfl))) (xa_cons (x_t1 v_tuple n_tuple rfl (Y.free 0) hv_tuple (w_of (x_var (pv 1) rfl))) xa_nil))) (x_one (x_own1 T (c_law_alike Y 12) (by decide) rfl (xa_cons (x_attr (att_ok (Y.more 3)) (w_of (x_var (pv 4) rfl))) (xa_cons (x_t1 v_tuple n_tuple rfl (Y.free 0) hv_tuple (w_of (x_var (pv 2) rfl))) xa_nil)))))))))))
theorem S__law_spoilt_member : FnScope N__law_spoilt_member ["member", "top", "draws"] sc__law_spoilt_member := ⟨rfl, rfl, rfl, by decide +kernel, rfl, by decide +kernel, by decide +kernel⟩
theorem c_law_spoilt_member (Y : Fs P w K mg) : CallOk P w K mg base 1 "_law_spoilt_member" d__law_spoilt_member ["member", "top", "draws"] 3 m_law_spoilt_member :=
  def_ok (d := d__law_spoilt_member) (N := N__law_spoilt_member) (ps := ["member", "top", "draws"]) (p := 3) (m := b__law_spoilt_member) (k := 0) (ow := ow__law_spoilt_member) (Y.def_ 28) (Y.glo 57) S__law_spoilt_member rfl rfl (by decide) (fun _ _ _ _ _ _ us hl => match us, hl with | [_, _, _], _ => rfl) (fun cdv A outer s H E T => (ss_cons (s_if (t_cmp T.eq n_eq b_eq (w_of (x_idx (w_of (x_var (pv 2) rfl)) (w_of x_int))) (w_of x_int) rfl) (ss_one (s_ret (e_of (f_list rfl rfl (Y.free 1) (w_of (x_var (pv 0) rfl)))))) ss_nil)
  (ss_cons (s_if (t_cmp T.eq n_eq b_eq (w_of (x_idx (w_of (x_var (pv 2) rfl)) (w_of x_int))) (w_of x_int) rfl) (ss_one (s_ret (x_slc (w_of (x_var (pv 0) rfl)) o_none (o_some (x_bin y_sub n_sub (w_of (x_b1 v_len n_len rfl (Y.free 3) hv_len (w_of (x_var (pv 0) rfl)))) (w_of x_int)))))) ss_nil)
  (ss_cons (s_if (t_cmp T.eq n_eq b_eq (w_of (x_idx (w_of (x_var (pv 2) rfl)) (w_of x_int))) (w_of x_int) rfl) (ss_one (s_ret (x_bin y_add n_add (w_of (x_var (pv 0) rfl)) (w_of (x_tup (xa_cons x_int xa_nil)))))) ss_nil)
  (ss_cons (s_if (t_cmp T.eq n_eq b_eq (w_of (x_idx (w_of (x_var (pv 2) rfl)) (w_of x_int))) (w_of x_int) rfl) (ss_one (s_ret (x_idx (w_of (e_of (f_lst (xa_cons x_non (xa_cons x_int (xa_cons (x_str (s := "01")) (xa_cons (x_tup xa_nil) (xa_cons x_bl xa_nil)))))))) (w_of (x_bin y_mod n_mod (w_of (x_idx (w_of (x_var (pv 2) rfl)) (w_of x_int))) (w_of x_int)))))) ss_nil)
  (ss_cons (s_set (ps_set (i := 3) T.nd rfl (Or.inl rfl) (x_idx (w_of (e_of (f_lst (xa_cons (x_un y_neg n_neg (w_of x_int)) (xa_cons (x_var (pv 1) rfl) (xa_cons (x_bin y_add n_add (w_of (x_var (pv 1) rfl)) (w_of (x_idx (w_of (x_var (pv 2) rfl)) (w_of x_int)))) (xa_cons x_bl (xa_cons x_bl (xa_cons x_non (xa_cons (x_str (s := "0")) (xa_cons (x_tup (xa_cons x_int xa_nil)) (xa_cons (e_of (f_lst (xa_cons x_int xa_nil))) (xa_cons (x_un y_neg n_neg (w_of (x_bin y_pow n_pow (w_of x_int) (w_of x_int)))) xa_nil))))))))))))) (w_of (x_idx (w_of (x_var (pv 2) rfl)) (w_of x_int))))) rfl)
  (ss_cons (s_set (ps_set (i := 4) T.nd rfl (Or.inl rfl) (x_bin y_mod n_mod (w_of (x_idx (w_of (x_var (pv 2) rfl)) (w_of x_int))) (w_of (x_b1 v_len n_len rfl (Y.free 3) hv_len (w_of (x_var (pv 0) rfl)))))) rfl)
  (ss_one (s_ret (x_bin y_add n_add (w_of (x_bin y_add n_add (w_of (x_slc (w_of (x_var (pv 0) rfl)) o_none (o_some (x_var (pv 4) rfl)))) (w_of (x_tup (xa_cons (x_var (pv 3) rfl) xa_nil))))) (w_of (x_slc (w_of (x_var (pv 0) rfl)) (o_some (x_bin y_add n_add (w_of (x_var (pv 4) rfl)) (w_of x_int))) o_none))))))))))))
theorem S__law_spoilt_table : FnScope N__law_spoilt_table ["table", "top", "draws"] sc__law_spoilt_table := ⟨rfl, rfl, rfl, by decide +kernel, rfl, by decide +kernel, by decide +kernel⟩
theorem c_law_spoilt_table (Y : Fs P w K mg) : CallOk P w K mg base 2 "_law_spoilt_table" d__law_spoilt_table ["table", "top", "draws"] 3 m_law_spoilt_table :=
  def_ok (d := d__law_spoilt_table) (N := N__law_spoilt_table) (ps := ["table", "top", "draws"]) (p := 3) (m := b__law_spoilt_table) (k := 1) (ow := ow__law_spoilt_table) (oN := owS []) (oB := owS []) (Y.def_ 29) (Y.glo 58) S__law_spoilt_table rfl rfl (by decide) (fun _ _ _ _ _ _ us hl => match us, hl with | [_, _, _], _ => rfl) (fun cdv A outer s H E T => (c_cons (o1 := owS [3]) (c_own (ps_set (i := 3) T.nd rfl (Or.inl rfl) (f_list rfl rfl (Y.free 1) (w_of (x_var (pv 0) rfl)))) rfl (owS_add (by decide)))
  (c_cons (o1 := owS [3]) (s_up (s_for T.po T.calm (i_rng1 rfl (Y.free 9) (x_bin y_add n_add (w_of x_int) (w_of (x_idx (w_of (x_var (pv 2) rfl)) (w_of x_int))))) (g_nm (pg_name (i := 4) T.nd rfl (Or.inl rfl)) rfl) (c_cons (o1 := owS [3]) (s_up (s_set (ps_set (i := 5) T.nd rfl (Or.inl rfl) (x_bin y_mod n_mod (w_of (x_idx (w_of (x_var (pv 2) rfl)) (w_of (x_bin y_add n_add (w_of x_int) (w_of (x_var (pv 4) rfl)))))) (w_of (x_b1 v_len n_len rfl (Y.free 3) hv_len (x_own (pv 3)))))) rfl) (owS_le (by decide)) (by decide))
  (c_one (c_if (PW.pt (t_and (t_tst (w_of (x_isi1 (cs := CS) (t := .tup) rfl (kit_of_b (Y.more 0)) rfl (Y.free 2) (w_of (x_idx (x_own (pv 3)) (w_of (x_var (pv 5) rfl)))) (pe_bltn rfl (Y.free 0) hv_tuple rfl))) (by intro _; rfl)) (t_and1 (t_cmp y_gt n_gt b_gt (w_of (x_b1 v_len n_len rfl (Y.free 3) hv_len (w_of (x_idx (x_own (pv 3)) (w_of (x_var (pv 5) rfl)))))) (w_of x_int) rfl)))) (c_one (s_up (s_setL (i := 3) (ps_asg (x_own1 T (c_law_spoilt_member Y) (by decide) rfl (xa_cons (x_idx (x_own (pv 3)) (w_of (x_var (pv 5) rfl))) (xa_cons (x_var (pv 1) rfl) (xa_cons (x_var (pv 2) rfl) xa_nil)))) (pg_sub (pv 3) (x_var (pv 5) rfl) set_list)) rfl) (owS_le (by decide)) (by decide))) (c_cut (o1 := owS [3]) c_nil (owS_le (by decide)) (by decide)))))) (owS_le (by decide)) (by decide))
  (c_cut (o1 := owS []) (c_one (s_up (s_ret (x_var (pv 3) rfl)) (owS_le (by decide)) (by decide))) (owS_le (by decide)) (by decide)))))
theorem S__law_other_nexts : FnScope N__law_other_nexts ["nexts", "draws"] sc__law_other_nexts := ⟨rfl, rfl, rfl, by decide +kernel, rfl, by decide +kernel, by decide +kernel⟩
theorem c_law_other_nexts (Y : Fs P w K mg) : CallOk P w K mg base 7 "_law_other_nexts" d__law_other_nexts ["nexts", "draws"] 2 m_law_other_nexts :=
  def_ok (d := d__law_other_nexts) (N := N__law_other_nexts) (ps := ["nexts", "draws"]) (p := 2) (m := b__law_other_nexts) (k := 6) (ow := ow__law_other_nexts) (Y.def_ 30) (Y.glo 59) S__law_other_nexts rfl rfl (by decide) (fun _ _ _ _ _ _ us hl => match us, hl with | [_, _], _ => rfl) (fun cdv A outer s H E T => (ss_cons (s_if (t_cmp T.eq n_eq b_eq (w_of (x_idx (w_of (x_var (pv 1) rfl)) (w_of x_int))) (w_of x_int) rfl) (ss_one (s_ret (x_idx (w_of (e_of (f_lst (xa_cons x_non (xa_cons x_int (xa_cons x_bl (xa_cons (x_str (s := "ab")) (xa_cons (x_tup xa_nil) (xa_cons (e_of (f_lst xa_nil)) (xa_cons (x_un y_neg n_neg (w_of x_int)) (xa_cons (x_new (cls := "Machine") T (c_Machine Y) (by decide) rfl (xa_cons x_int (xa_cons (e_of (f_lst (xa_cons (x_tup (xa_cons x_int (xa_cons x_int xa_nil))) xa_nil))) (xa_cons (e_of (f_lst (xa_cons (x_tup (xa_cons x_int (xa_cons x_int xa_nil))) xa_nil))) xa_nil)))) (xa_cons (x_str (s := "")) (xa_cons (e_of (f_lst (xa_cons x_int xa_nil))) xa_nil))))))))))))) (w_of (x_idx (w_of (x_var (pv 1) rfl)) (w_of x_int)))))) ss_nil)
  (ss_one (s_ret (x_own1 T (c_law_spoilt_table Y) (by decide) rfl (xa_cons (x_var (pv 0) rfl) (xa_cons (x_b1 v_len n_len rfl (Y.free 3) hv_len (w_of (x_var (pv 0) rfl))) (xa_cons (x_var (pv 1) rfl) xa_nil))))))))
theorem S__law_other_outs : FnScope N__law_other_outs ["outs", "draws"] sc__law_other_outs := ⟨rfl, rfl, rfl, by decide +kernel, rfl, by decide +kernel, by decide +kernel⟩
theorem c_law_other_outs (Y : Fs P w K mg) : CallOk P w K mg base 7 "_law_other_outs" d__law_other_outs ["outs", "draws"] 2 m_law_other_outs :=
  def_ok (d := d__law_other_outs) (N := N__law_other_outs) (ps := ["outs", "draws"]) (p := 2) (m := b__law_other_outs) (k := 6) (ow := ow__law_other_outs) (Y.def_ 31) (Y.glo 60) S__law_other_outs rfl rfl (by decide) (fun _ _ _ _ _ _ us hl => match us, hl with | [_, _], _ => rfl) (fun cdv A outer s H E T => (ss_cons (s_if (t_cmp T.eq n_eq b_eq (w_of (x_idx (w_of (x_var (pv 1) rfl)) (w_of x_int))) (w_of x_int) rfl) (ss_one (s_ret (x_idx (w_of (e_of (f_lst (xa_cons x_non (xa_cons x_int (xa_cons x_bl (xa_cons (x_str (s := "01")) (xa_cons (x_tup xa_nil) (xa_cons (e_of (f_lst xa_nil)) (xa_cons x_int (xa_cons (x_new (cls := "Machine") T (c_Machine Y) (by decide) rfl (xa_cons x_int (xa_cons (e_of (f_lst (xa_cons (x_tup (xa_cons x_int (xa_cons x_int xa_nil))) xa_nil))) (xa_cons (e_of (f_lst (xa_cons (x_tup (xa_cons x_int (xa_cons x_int xa_nil))) xa_nil))) xa_nil)))) (xa_cons (x_str (s := "")) (xa_cons (x_bin y_pow n_pow (w_of x_int) (w_of x_int)) xa_nil))))))))))))) (w_of (x_idx (w_of (x_var (pv 1) rfl)) (w_of x_int)))))) ss_nil)
  (ss_cons (s_set (ps_set (i := 2) T.nd rfl (Or.inl rfl) (e_of (f_list rfl rfl (Y.free 1) (w_of (x_var (pv 0) rfl))))) rfl)
  (ss_cons (s_if (t_cmp y_lt n_lt b_lt (w_of (x_idx (w_of (x_var (pv 1) rfl)) (w_of x_int))) (w_of x_int) rfl) (ss_one (s_set (ps_set (i := 2) T.nd rfl (Or.inl rfl) (x_own1 T (c_law_spoilt_table Y) (by decide) rfl (xa_cons (x_var (pv 0) rfl) (xa_cons x_int (xa_cons (x_var (pv 1) rfl) xa_nil))))) rfl)) ss_nil)
  (ss_cons (s_if (PW.pt (t_or (t_cmp T.eq n_eq b_eq (w_of (x_idx (w_of (x_var (pv 1) rfl)) (w_of x_int))) (w_of x_int) rfl) (t_or1 (t_cmp T.eq n_eq b_eq (w_of (x_idx (w_of (x_var (pv 1) rfl)) (w_of x_int))) (w_of x_int) rfl)))) (ss_one (s_ret (x_slc (w_of (x_var (pv 2) rfl)) o_none (o_some (x_bin y_mod n_mod (w_of (x_idx (w_of (x_var (pv 1) rfl)) (w_of x_int))) (w_of (x_b1 v_len n_len rfl (Y.free 3) hv_len (w_of (x_var (pv 2) rfl))))))))) ss_nil)
  (ss_cons (s_if (PW.pt (t_or (t_cmp T.eq n_eq b_eq (w_of (x_idx (w_of (x_var (pv 1) rfl)) (w_of x_int))) (w_of x_int) rfl) (t_or1 (t_cmp T.eq n_eq b_eq (w_of (x_idx (w_of (x_var (pv 1) rfl)) (w_of x_int))) (w_of x_int) rfl)))) (ss_one (s_ret (x_bin y_add n_add (w_of (x_var (pv 2) rfl)) (w_of (e_of (f_rep (f_lst (xa_cons (x_idx (w_of (x_var (pv 0) rfl)) (w_of x_int)) xa_nil)) (w_of (x_bin y_add n_add (w_of x_int) (w_of (x_idx (w_of (x_var (pv 1) rfl)) (w_of x_int))))))))))) ss_nil)
  (ss_cons (s_if (t_cmp T.eq n_eq b_eq (w_of (x_idx (w_of (x_var (pv 1) rfl)) (w_of x_int))) (w_of x_int) rfl) (ss_one (s_ret (x_bin y_add n_add (w_of (x_var (pv 2) rfl)) (w_of (e_of (f_lst (xa_cons (x_own1 T (c_law_spoilt_member Y) (by decide) rfl (xa_cons (x_idx (w_of (x_var (pv 0) rfl)) (w_of x_int)) (xa_cons x_int (xa_cons (x_var (pv 1) rfl) xa_nil)))) xa_nil))))))) ss_nil)
  (ss_one (s_ret (x_var (pv 2) rfl))))))))))
theorem S__law_table : FnScope N__law_table ["cell", "states", "wide", "top"] sc__law_table := ⟨rfl, rfl, rfl, by decide +kernel, rfl, by decide +kernel, by decide +kernel⟩
theorem c_law_table (Y : Fs P w K mg) : CallOk P w K mg base 3 "_law_table" d__law_table ["cell", "states", "wide", "top"] 4 m_law_table :=
  def_ok (d := d__law_table) (N := N__law_table) (ps := ["cell", "states", "wide", "top"]) (p := 4) (m := b__law_table) (k := 2) (ow := ow__law_table) (Y.def_ 32) (Y.glo 61) S__law_table rfl rfl (by decide) (fun _ _ _ _ _ _ us hl => match us, hl with | [_, _, _, _], _ => rfl) (fun cdv A outer s H E T => (ss_cons (s_set (ps_set (i := 4) T.nd rfl (Or.inr rfl) (x_own1 T (c_law_draws Y) (by decide) rfl (xa_cons (x_var (pv 0) rfl) (xa_cons (e_of (f_rep (f_lst (xa_cons (x_var (pv 3) rfl) xa_nil)) (w_of (x_bin y_mul n_mul (w_of (x_var (pv 1) rfl)) (w_of (x_var (pv 2) rfl)))))) xa_nil)))) rfl)
  (ss_one (s_ret (e_of (f_lc (own := [("s", 5)]) T (i_gr (i_rng1 rfl (Y.free 9) (x_var (pv 1) rfl))) (blkOk_by (N := N__law_table) (sc := sc__law_table) (own := [("s", 5)]) (by decide +kernel)) (fun _ _ _ _ _ T1 => (g_nm (pg_name (i := 5) T1.nd rfl (Or.inl rfl)) rfl)) (fun _ _ _ _ _ T1 => ts_nil) (fun _ _ _ _ _ T1 => (x_t1 v_tuple n_tuple rfl (Y.free 0) hv_tuple (w_of (x_slc (w_of (x_var (pv 4) rfl)) (o_some (x_bin y_mul n_mul (w_of (x_var (pv 5) rfl)) (w_of (x_var (pv 2) rfl)))) (o_some (x_bin y_mul n_mul (w_of (x_bin y_add n_add (w_of (x_var (pv 5) rfl)) (w_of x_int))) (w_of (x_var (pv 2) rfl)))))))) (by decide)))))))
theorem S__law_holds : FnScope N__law_holds ["script"] sc__law_holds := ⟨rfl, rfl, rfl, by decide +kernel, rfl, by decide +kernel, by decide +kernel⟩
theorem c_law_holds (Y : Fs P w K mg) : CallOk P w K mg base 16 "_law_holds" d__law_holds ["script"] 1 m_law_holds :=
  def_ok (d := d__law_holds) (N := N__law_holds) (ps := ["script"]) (p := 1) (m := b__law_holds) (k := 15) (ow := ow__law_holds) (Y.def_ 33) (Y.glo 62) S__law_holds rfl rfl (by decide) (fun _ _ _ _ _ _ us hl => match us, hl with | [_], _ => rfl) (fun cdv A outer s H E T => (ss_cons (s_set (ps_set (i := 1) T.nd rfl (Or.inl rfl) (x_own1 T (c_law_draws Y) (by decide) rfl (xa_cons (x_own1 T (c_law_cell Y) (by decide) rfl (xa_cons (x_var (pv 0) rfl) (xa_cons x_int xa_nil))) (xa_cons (e_of (f_lst (xa_cons x_int (xa_cons x_int (xa_cons x_int (xa_cons x_int (xa_cons x_int (xa_cons x_int (xa_cons x_int xa_nil))))))))) xa_nil)))) rfl)
  (ss_cons (s_set (ps_set (i := 2) T.nd rfl (Or.inl rfl) (x_bin y_add n_add (w_of x_int) (w_of (x_idx (w_of (x_var (pv 1) rfl)) (w_of x_int))))) rfl)
  (ss_cons (s_set (ps_set (i := 3) T.nd rfl (Or.inl rfl) (x_bin y_add n_add (w_of x_int) (w_of (x_idx (w_of (x_var (pv 1) rfl)) (w_of x_int))))) rfl)
  (ss_cons (s_set (ps_set (i := 4) T.nd rfl (Or.inl rfl) (x_own1 T (c_law_table Y) (by decide) rfl (xa_cons (x_own1 T (c_law_cell Y) (by decide) rfl (xa_cons (x_var (pv 0) rfl) (xa_cons x_int xa_nil))) (xa_cons (x_var (pv 3) rfl) (xa_cons (x_bin y_shl n_shl (w_of x_int) (w_of (x_var (pv 2) rfl))) (xa_cons (x_var (pv 3) rfl) xa_nil)))))) rfl)
  (ss_cons (s_set (ps_set (i := 5) T.nd rfl (Or.inl rfl) (x_own1 T (c_law_table Y) (by decide) rfl (xa_cons (x_own1 T (c_law_cell Y) (by decide) rfl (xa_cons (x_var (pv 0) rfl) (xa_cons x_int xa_nil))) (xa_cons (x_var (pv 3) rfl) (xa_cons (x_bin y_shl n_shl (w_of x_int) (w_of (x_var (pv 2) rfl))) (xa_cons x_int xa_nil)))))) rfl)
  (ss_cons (s_if (t_not (t_tst (w_of (x_own1 T (c_law_made_rightly Y) (by decide) rfl (xa_cons (x_var (pv 2) rfl) (xa_cons (e_of (f_list rfl rfl (Y.free 1) (w_of (x_var (pv 4) rfl)))) (xa_cons (x_t1 v_tuple n_tuple rfl (Y.free 0) hv_tuple (w_of (x_var (pv 5) rfl))) xa_nil))))) (by intro _; rfl))) (ss_one (s_ret x_bl)) ss_nil)
  (ss_cons (s_set (ps_set (i := 6) T.nd rfl (Or.inl rfl) (e_of (f_lst (xa_cons x_int (xa_cons x_int (xa_cons x_int (xa_cons x_int (xa_cons x_int (xa_cons x_int (xa_cons x_int (xa_cons x_int xa_nil))))))))))) rfl)
  (ss_cons (s_set (ps_set (i := 7) T.nd rfl (Or.inl rfl) (x_var (pv 4) rfl)) rfl)
  (ss_cons (s_set (ps_set (i := 8) T.nd rfl (Or.inl rfl) (x_t1 v_tuple n_tuple rfl (Y.free 0) hv_tuple (w_of (x_var (pv 5) rfl)))) rfl)
  (ss_cons (s_set (ps_set (i := 9) T.nd rfl (Or.inl rfl) (x_var (pv 2) rfl)) rfl)
  (ss_cons (s_if (t_cmp T.eq n_eq b_eq (w_of (x_bin y_mod n_mod (w_of (x_idx (w_of (x_var (pv 1) rfl)) (w_of x_int))) (w_of x_int))) (w_of x_int) rfl) (ss_one (s_set (ps_set (i := 7) T.nd rfl (Or.inl rfl) (x_own1 T (c_law_other_nexts Y) (by decide) rfl (xa_cons (x_var (pv 4) rfl) (xa_cons (x_own1 T (c_law_draws Y) (by decide) rfl (xa_cons (x_own1 T (c_law_cell Y) (by decide) rfl (xa_cons (x_var (pv 0) rfl) (xa_cons x_int xa_nil))) (xa_cons (x_var (pv 6) rfl) xa_nil))) xa_nil)))) rfl)) ss_nil)
  (ss_cons (s_if (t_cmp T.eq n_eq b_eq (w_of (x_bin y_mod n_mod (w_of (x_bin y_fdiv n_fdiv (w_of (x_idx (w_of (x_var (pv 1) rfl)) (w_of x_int))) (w_of x_int))) (w_of x_int))) (w_of x_int) rfl) (ss_one (s_set (ps_set (i := 8) T.nd rfl (Or.inl rfl) (x_own1 T (c_law_other_outs Y) (by decide) rfl (xa_cons (x_var (pv 5) rfl) (xa_cons (x_own1 T (c_law_draws Y) (by decide) rfl (xa_cons (x_own1 T (c_law_cell Y) (by decide) rfl (xa_cons (x_var (pv 0) rfl) (xa_cons x_int xa_nil))) (xa_cons (x_var (pv 6) rfl) xa_nil))) xa_nil)))) rfl)) ss_nil)
  (ss_cons (s_if (t_cmp T.eq n_eq b_eq (w_of (x_idx (w_of (x_var (pv 1) rfl)) (w_of x_int))) (w_of x_int) rfl) (ss_one (s_set (ps_set (i := 9) T.nd rfl (Or.inl rfl) (x_idx (w_of (e_of (f_lst (xa_cons x_int (xa_cons x_int (xa_cons (x_un y_neg n_neg (w_of x_int)) (xa_cons x_bl (xa_cons x_non (xa_cons (x_str (s := "1")) (xa_cons (x_tup (xa_cons x_int xa_nil)) (xa_cons (x_bin y_pow n_pow (w_of x_int) (w_of x_int)) (xa_cons x_bl (xa_cons (e_of (f_lst (xa_cons x_int xa_nil))) xa_nil))))))))))))) (w_of (x_idx (w_of (x_var (pv 1) rfl)) (w_of x_int))))) rfl)) ss_nil)
  (ss_cons (s_if (t_cmp T.eq n_eq b_eq (w_of (x_idx (w_of (x_var (pv 1) rfl)) (w_of x_int))) (w_of x_int) rfl) (ss_one (s_set (ps_set (i := 9) T.nd rfl (Or.inl rfl) (x_bin y_add n_add (w_of x_int) (w_of (x_bin y_mod n_mod (w_of (x_bin y_add n_add (w_of (x_var (pv 2) rfl)) (w_of (x_idx (w_of (x_var (pv 1) rfl)) (w_of x_int))))) (w_of x_int))))) rfl)) ss_nil)
  (ss_cons (s_if (PW.pt (t_and (t_tst (w_of (x_isi1 (cs := CS) (t := .lst) rfl (kit_of_b (Y.more 0)) rfl (Y.free 2) (w_of (x_var (pv 7) rfl)) (pe_bltn rfl (Y.free 1) hv_list rfl))) (by intro _; rfl)) (t_and1 (t_cmp T.eq n_eq b_eq (w_of (x_bin y_mod n_mod (w_of (x_idx (w_of (x_var (pv 1) rfl)) (w_of x_int))) (w_of x_int))) (w_of x_int) rfl)))) (ss_one (s_set (ps_set (i := 7) T.nd rfl (Or.inl rfl) (x_t1 v_tuple n_tuple rfl (Y.free 0) hv_tuple (w_of (x_var (pv 7) rfl)))) rfl)) ss_nil)
  (ss_cons (s_if (t_not (t_tst (w_of (x_own1 T (c_law_made_rightly Y) (by decide) rfl (xa_cons (x_var (pv 9) rfl) (xa_cons (x_var (pv 7) rfl) (xa_cons (x_var (pv 8) rfl) xa_nil))))) (by intro _; rfl))) (ss_one (s_ret x_bl)) ss_nil)
  (ss_cons (s_if (t_not (t_tst (w_of (x_own1 T (c_law_made_rightly Y) (by decide) rfl (xa_cons (x_var (pv 2) rfl) (xa_cons (x_t1 v_tuple n_tuple rfl (Y.free 0) hv_tuple (w_of (x_var (pv 4) rfl))) (xa_cons (e_of (f_list rfl rfl (Y.free 1) (w_of (x_var (pv 5) rfl)))) xa_nil))))) (by intro _; rfl))) (ss_one (s_ret x_bl)) ss_nil)
  (ss_cons (s_set (ps_set (i := 10) T.nd rfl (Or.inl rfl) (x_bin y_mod n_mod (w_of (x_idx (w_of (x_var (pv 1) rfl)) (w_of x_int))) (w_of (x_var (pv 3) rfl)))) rfl)
  (ss_cons (s_set (ps_set (i := 11) T.nd rfl (Or.inl rfl) (x_idx (w_of (x_var (pv 4) rfl)) (w_of (x_var (pv 10) rfl)))) rfl)
  (ss_cons (s_set (ps_set (i := 12) T.nd rfl (Or.inl rfl) (x_bin y_mod n_mod (w_of (x_idx (w_of (x_var (pv 1) rfl)) (w_of x_int))) (w_of (x_b1 v_len n_len rfl (Y.free 3) hv_len (w_of (x_var (pv 11) rfl)))))) rfl)
  (ss_cons (s_set (ps_set (i := 13) T.nd rfl (Or.inl rfl) (x_bin y_add n_add (w_of (x_bin y_add n_add (w_of (x_slc (w_of (x_var (pv 11) rfl)) o_none (o_some (x_var (pv 12) rfl)))) (w_of (x_tup (xa_cons (x_var (pv 3) rfl) xa_nil))))) (w_of (x_slc (w_of (x_var (pv 11) rfl)) (o_some (x_bin y_add n_add (w_of (x_var (pv 12) rfl)) (w_of x_int))) o_none)))) rfl)
  (ss_cons (s_if (t_not (t_tst (w_of (x_own1 T (c_law_made_rightly Y) (by decide) rfl (xa_cons (x_var (pv 2) rfl) (xa_cons (x_bin y_add n_add (w_of (x_bin y_add n_add (w_of (x_slc (w_of (x_var (pv 4) rfl)) o_none (o_some (x_var (pv 10) rfl)))) (w_of (e_of (f_lst (xa_cons (x_var (pv 13) rfl) xa_nil)))))) (w_of (x_slc (w_of (x_var (pv 4) rfl)) (o_some (x_bin y_add n_add (w_of (x_var (pv 10) rfl)) (w_of x_int))) o_none))) (xa_cons (x_var (pv 5) rfl) xa_nil))))) (by intro _; rfl))) (ss_one (s_ret x_bl)) ss_nil)
  (ss_cons (s_set (ps_set (i := 11) T.nd rfl (Or.inl rfl) (x_idx (w_of (x_var (pv 5) rfl)) (w_of (x_var (pv 10) rfl)))) rfl)
  (ss_cons (s_set (ps_set (i := 13) T.nd rfl (Or.inl rfl) (x_bin y_add n_add (w_of (x_bin y_add n_add (w_of (x_slc (w_of (x_var (pv 11) rfl)) o_none (o_some (x_var (pv 12) rfl)))) (w_of (x_tup (xa_cons x_int xa_nil))))) (w_of (x_slc (w_of (x_var (pv 11) rfl)) (o_some (x_bin y_add n_add (w_of (x_var (pv 12) rfl)) (w_of x_int))) o_none)))) rfl)
  (ss_cons (s_if (t_not (t_tst (w_of (x_own1 T (c_law_made_rightly Y) (by decide) rfl (xa_cons (x_var (pv 2) rfl) (xa_cons (x_var (pv 4) rfl) (xa_cons (x_bin y_add n_add (w_of (x_bin y_add n_add (w_of (x_slc (w_of (x_var (pv 5) rfl)) o_none (o_some (x_var (pv 10) rfl)))) (w_of (e_of (f_lst (xa_cons (x_var (pv 13) rfl) xa_nil)))))) (w_of (x_slc (w_of (x_var (pv 5) rfl)) (o_some (x_bin y_add n_add (w_of (x_var (pv 10) rfl)) (w_of x_int))) o_none))) xa_nil))))) (by intro _; rfl))) (ss_one (s_ret x_bl)) ss_nil)
  (ss_cons (s_set (ps_set (i := 14) T.nd rfl (Or.inl rfl) (x_new (cls := "Machine") T (c_Machine Y) (by decide) rfl (xa_cons (x_var (pv 2) rfl) (xa_cons (x_var (pv 4) rfl) (xa_cons (x_var (pv 5) rfl) xa_nil))))) rfl)
  (ss_cons (s_set (ps_set (i := 15) T.nd rfl (Or.inl rfl) (x_own1 T (c_law_draws Y) (by decide) rfl (xa_cons (x_own1 T (c_law_cell Y) (by decide) rfl (xa_cons (x_var (pv 0) rfl) (xa_cons x_int xa_nil))) (xa_cons (e_of (f_rep (f_lst (xa_cons (x_bin y_shl n_shl (w_of x_int) (w_of (x_var (pv 2) rfl))) xa_nil)) (w_of (x_bin y_add n_add (w_of x_int) (w_of (x_idx (w_of (x_var (pv 1) rfl)) (w_of x_int))))))) xa_nil)))) rfl)
  (ss_one (s_ret (x_own1 T (c_law_calls_refused Y) (by decide) rfl (xa_cons (x_var (pv 14) rfl) (xa_cons (x_var (pv 3) rfl) (xa_cons (x_var (pv 15) rfl) (xa_cons (x_own1 T (c_law_draws Y) (by decide) rfl (xa_cons (x_own1 T (c_law_cell Y) (by decide) rfl (xa_cons (x_var (pv 0) rfl) (xa_cons x_int xa_nil))) (xa_cons (x_var (pv 6) rfl) xa_nil))) xa_nil)))))))))))))))))))))))))))))))))))
theorem S_law : FnScope N_law ["script"] sc_law := ⟨rfl, rfl, rfl, by decide +kernel, rfl, by decide +kernel, by decide +kernel⟩
theorem law_is (Y : Fs P w K mg) : ∃ fd : FuncData, (∀ (s : Shared) (u : Value), BindsTo s fd ⟨[u], []⟩ [("script", u)]) ∧ ∀ base : Heap, FnOk P w K mg base (L2N.CX P w) 17 (He.ga K "law") fd ["script"] (spM K 1 m_law) :=
  law_ok (qual := "law") (params := defArgs st_law) (body := defBody st_law) (scope := sc_law) (f := He.ga K "law") (N := N_law) (m := b_law) (ow := ow_law) (Y.def_ 34) S_law rfl rfl (fun _ _ _ _ _ _ us hl => match us, hl with | [_], _ => rfl) (fun base cdv A outer s H E T => (ss_one (s_thru T fun T1 => (ss_one (s_ret (x_own1 T1 (c_law_holds Y) (by decide) rfl (xa_cons (x_var (pv 0) rfl) xa_nil)))))))
end
abbrev lo0 : List Str := ["is_integer", "is_number", "is_inputs", "as_tuple", "is_below", "is_word", "are_words", "CarryError", "InvalidNumber", "InvalidWords", "InvalidReading", "InvalidMachine", "InvalidRow", "InvalidMarks", "InvalidKind", "InvalidPrimes", "InvalidText", "InvalidCommand", "Undefined", "NothingToDo", "NothingKept", "is_reading", "letters_of", "is_line", "right_nexts", "right_outs", "Machine", "_law_cell", "_law_mixed", "_law_draws"]
abbrev lo1 : List Str := ["_law_table", "_law_integer", "_law_alike", "_law_in_range", "_law_first_wrong", "_law_fault", "_law_spoilt_member", "_law_spoilt_table", "_law_other_nexts", "_law_other_outs", "_law_made_rightly", "_law_called", "_law_refused", "_law_calls_refused", "_law_holds"]
abbrev lo : List Str := lo0 ++ lo1
abbrev R : PySem.W.OpenRow := PySem.W.OpenLaw.row PySem.Challenge.rw_onlycarries_k04_faults_of_machines
abbrev hk : PySem.W.Hook := hookY 5 (fun K => noL K && mss.all fun m => m K) fa fns xfs tbs
def ob (s : PySem.W.SharedT) : AlY := obsYG 5 (fun K => noL K && mss.all fun m => m K) fa fns xfs tbs (HandSHeadRun.getT s)
theorem ob_eq (s : PySem.W.SharedT) : ob s = hk.obs s.abs := obsYG_eq (HandSHeadRun.getT_eq s)
end Py
namespace Py
open PySem PySem.Spec PyProof.Rows L2
theorem run0 (w : World) : HandSHeadRun.RunEq R (PySem.W.view R.prog [50]) hk ob 8000 lo (w.withFollow "special-get-raises" false) := by
  intro os
  kernel_rfl
theorem run1 (w : World) : HandSHeadRun.RunEq R (PySem.W.view R.prog [50]) hk ob 8000 lo (w.withFollow "special-get-raises" true) := by
  intro os
  kernel_rfl
theorem run (w : World) : HandSHeadRun.RunEq R (PySem.W.view R.prog [50]) hk ob 8000 lo w := PySem.W.byRow2 "special-get-raises" run0 run1 w
end Py
open PySem PySem.W PySem.Calls PyProof.Rows
theorem PySem.Challenge.cw_onlycarries_k04_faults_of_machines_holds : PySem.Challenge.rw_onlycarries_k04_faults_of_machines.Holds := by
  w_on; o_law
  refine HandSHeadRun.head_any (r := OpenLaw.row PySem.Challenge.rw_onlycarries_k04_faults_of_machines) (q := view (OpenLaw.row PySem.Challenge.rw_onlycarries_k04_faults_of_machines).prog [50]) (H := Py.hk) (ob := Py.ob) (M := 8000) (loose := Py.lo) (d := HandSHeadRun.topDef (OpenLaw.row PySem.Challenge.rw_onlycarries_k04_faults_of_machines).prog 50) (kwd := []) Py.ob_eq
    (by kernel_rfl) (fun s => by kernel_rfl) Py.run (by kernel_rfl) (by kernel_rfl) (by kernel_rfl) (by rfl) (by first | assumption | decide +kernel) (by decide +kernel) ⟨rfl, rfl, rfl, rfl, rfl, by decide +kernel⟩ ?hw ?hc
  case hw => w_witness2
  case hc =>
    refine Py.walk_ofW (l := PySem.Challenge.rw_onlycarries_k04_faults_of_machines) (n := 63) (k := 17) (x := "script") (CX := fun w => L2N.CX PySem.Challenge.pw_onlycarries_k04_faults_of_machines w) rfl (by decide) (by kernel_rfl) ⟨rfl, by decide, by decide⟩ ?F (fun _ _ _ _ _ z => Py.cx_none z)
    intro w mg fa h Y G hmg0
    obtain ⟨K, KX, c, m, xq⟩ := Y
    have hmg : mg ("law" : PySem.Str) = some (.ref fa) := by
      have e : (HandSHeadRun.topDef (OpenLaw.row PySem.Challenge.rw_onlycarries_k04_faults_of_machines).prog 50).name = ("law" : PySem.Str) := by kernel_rfl
      rw [← e]
      exact hmg0
    have YY : Py.Fs (PySem.Challenge.rw_onlycarries_k04_faults_of_machines).prog w K mg := ⟨⟨c, m, h, KX, G⟩, xq, by kernel_rfl, by kernel_rfl⟩
    have e2 := hmg.symm.trans (YY.glo 63)
    cases e2
    obtain ⟨fd, hb, hF⟩ := Py.law_is (P := (PySem.Challenge.rw_onlycarries_k04_faults_of_machines).prog) YY
    exact ⟨K, fd, _, KX, hb, fun H a ns hl _ hS => Py.sp_law YY.noL (Py.U.law_true ns hl) hS, fun base _ _ => hF base⟩
