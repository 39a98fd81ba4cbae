import PyProof.Rows.All
import Wide.All
import OpenK.AllK
import Wide.FinOn
import HandS.HeadHook4
import HandS.Words
import HandS.Codes
import HandS.Head0
import HandS.Head1
import HandS.Head2
import HandS.HeadEnd
import KE.KStateDown
import Lean
import HandS.Base
import HandS.Call
import HandS.List
import HandS.Comp
import HandS.Text
import HandS.Exc
import HandS.More
import HandS.Lambda
import HandS.TupAny
import HandS.Flow
import HandS.IsInst
import HandS.StrMore
import HandS.Strs
import HandS.Dict
import HandS.Iter
import HandS.Rev
import HandS.Zip
import HandS.ExcCtx
import HandS.RaiseMore
import HandS.MapJoin
import HandS.TupMul
import HandS.TupLe
import HandS.ExcOwn
import HandS.HeadHook1
import HandS.Hot
import HandS.HotCalls
import HandS.ExcIs
import HandS.Nested
import HandS.EndTab
import HandS.NestedK
import PySem.Challenge.RW_mastershow_k61_what_is_no_deed
set_option autoImplicit false
namespace Ms

/-! ## Values, stores, results -/
inductive D where
  | non | bl (b : Bool) | int (i : Int) | str (s : List Nat) | tup (l : List D) | lst (l : List D)
  | dct (l : List (D × D)) | obj (n : Nat) | fn (n : Nat) | frz (l : List Int)

inductive Cell where
  | lst (l : List D) | ins (c : Nat) (fs : List (Nat × D))
abbrev Sto := List Cell

inductive Slot where
  | non | val (d : D) | own (l : List D) | ownD (l : List (D × D))
abbrev Env := List Slot

/-- a text as its signs -/
def cs (s : String) : List Nat := s.toList.map (fun c => c.toNat)
abbrev D.s (x : String) : D := .str (cs x)

inductive Rs (α : Type) where
  | ok (a : α) (s : Sto) | ex (c : Nat) (r : D) (s : Sto) | bad
def Rs.bind {α β : Type} (r : Rs α) (f : α → Sto → Rs β) : Rs β := match r with
  | .ok a s => f a s
  | .ex c d s => .ex c d s
  | .bad => .bad
@[simp] theorem Rs.bind_ok {α β : Type} (a : α) (s : Sto) (f : α → Sto → Rs β) : (Rs.ok a s).bind f = f a s := rfl
@[simp] theorem Rs.bind_ex {α β : Type} (c : Nat) (d : D) (s : Sto) (f : α → Sto → Rs β) : (Rs.ex c d s : Rs α).bind f = .ex c d s := rfl
@[simp] theorem Rs.bind_bad {α β : Type} (f : α → Sto → Rs β) : (Rs.bad : Rs α).bind f = .bad := rfl
def Rs.of {α : Type} (o : Option α) (s : Sto) : Rs α := match o with
  | some a => .ok a s
  | none => .bad
@[simp] theorem Rs.of_some {α : Type} (a : α) (s : Sto) : Rs.of (some a) s = .ok a s := rfl
@[simp] theorem Rs.of_none {α : Type} (s : Sto) : (Rs.of none s : Rs α) = .bad := rfl

inductive SRs where
  | nx (e : Env) (s : Sto) | rt (d : D) (s : Sto) | bk (e : Env) (s : Sto) | ct (e : Env) (s : Sto)
  | ex (c : Nat) (r : D) (e : Env) (s : Sto) | bad
def Rs.bindS {α : Type} (r : Rs α) (e : Env) (f : α → Sto → SRs) : SRs := match r with
  | .ok a s => f a s
  | .ex c d s => .ex c d e s
  | .bad => .bad
@[simp] theorem Rs.bindS_ok {α : Type} (a : α) (s : Sto) (e : Env) (f : α → Sto → SRs) : (Rs.ok a s).bindS e f = f a s := rfl
@[simp] theorem Rs.bindS_ex {α : Type} (c : Nat) (d : D) (s : Sto) (e : Env) (f : α → Sto → SRs) : (Rs.ex c d s : Rs α).bindS e f = .ex c d e s := rfl
@[simp] theorem Rs.bindS_bad {α : Type} (e : Env) (f : α → Sto → SRs) : (Rs.bad : Rs α).bindS e f = .bad := rfl
def SRs.bind (r : SRs) (f : Env → Sto → SRs) : SRs := match r with
  | .nx e s => f e s
  | r => r
@[simp] theorem SRs.bind_nx (e : Env) (s : Sto) (f : Env → Sto → SRs) : (SRs.nx e s).bind f = f e s := rfl
@[simp] theorem SRs.bind_rt (d : D) (s : Sto) (f : Env → Sto → SRs) : (SRs.rt d s).bind f = .rt d s := rfl
@[simp] theorem SRs.bind_bk (e : Env) (s : Sto) (f : Env → Sto → SRs) : (SRs.bk e s).bind f = .bk e s := rfl
@[simp] theorem SRs.bind_ct (e : Env) (s : Sto) (f : Env → Sto → SRs) : (SRs.ct e s).bind f = .ct e s := rfl
@[simp] theorem SRs.bind_ex (c : Nat) (d : D) (e : Env) (s : Sto) (f : Env → Sto → SRs) : (SRs.ex c d e s).bind f = .ex c d e s := rfl
@[simp] theorem SRs.bind_bad (f : Env → Sto → SRs) : SRs.bad.bind f = .bad := rfl

/-! ## Operations on values -/
def Sto.list (s : Sto) (n : Nat) : Option (List D) := match s[n]? with
  | some (.lst l) => some l
  | _ => none
/-- a stored list as the list that it is now -/
def der (s : Sto) : D → D
  | .obj n => (match s.list n with
    | some l => .lst l
    | none => .obj n)
  | d => d
def lim : Nat := 16777216

def D.isNon : D → Bool
  | .non => true
  | _ => false
mutual
def D.eqv : D → D → Bool
  | .non, .non => true
  | .bl a, .bl b => a == b
  | .bl a, .int j => (cond a (1 : Int) 0) == j
  | .int i, .bl b => i == (cond b (1 : Int) 0)
  | .int i, .int j => i == j
  | .str x, .str y => x == y
  | .tup x, .tup y => D.eqvL x y
  | .lst x, .lst y => D.eqvL x y
  | _, _ => false
def D.eqvL : List D → List D → Bool
  | [], [] => true
  | x :: xs, y :: ys => D.eqv x y && D.eqvL xs ys
  | _, _ => false
end
def D.flat : D → Bool
  | .non | .bl _ | .int _ | .str _ => true
  | _ => false
mutual
/-- none, truths, numbers, texts, tuples and lists of such -/
def D.plain : D → Bool
  | .non | .bl _ | .int _ | .str _ => true
  | .tup l | .lst l => D.plainL l
  | _ => false
def D.plainL : List D → Bool
  | [] => true
  | x :: xs => D.plain x && D.plainL xs
end
mutual
def D.depth : D → Nat
  | .tup l | .lst l => D.depthL l + 1
  | _ => 0
def D.depthL : List D → Nat
  | [] => 0
  | x :: xs => max (D.depth x) (D.depthL xs)
end
def okEq (a : D) : Bool := a.plain && decide (a.depth ≤ 64)
/-- a == b -/
def pyEq (a b : D) : Option Bool := match okEq a && okEq b with
  | true => some (a.eqv b)
  | false => none
def truth : D → Option Bool
  | .non => some false
  | .bl b => some b
  | .int i => some (i != 0)
  | .str s => (match decide (s.length ≤ lim) with
    | true => some (!s.isEmpty)
    | false => none)
  | .tup l | .lst l => some (!l.isEmpty)
  | _ => none

def small (i : Int) : Bool := decide (i.natAbs < 18446744073709551616)
inductive BOp where
  | add | sub | mul | fdiv | mod | pow
  deriving DecidableEq
def binop : BOp → D → D → Option D
  | .add, .int i, .int j => some (.int (i + j))
  | .add, .str x, .str y => (match decide (x.length + y.length ≤ lim) with
    | true => some (.str (x ++ y))
    | false => none)
  | .add, .tup x, .tup y => (match decide (x.length + y.length ≤ lim) with
    | true => some (.tup (x ++ y))
    | false => none)
  | .sub, .int i, .int j => some (.int (i - j))
  | .mul, .int i, .int j => (match small i || small j with
    | true => some (.int (i * j))
    | false => none)
  | .mul, .str x, .int k => (match decide (0 ≤ k) && decide (k ≤ 1000) && decide (x.length ≤ 1000) with
    | true => some (.str (List.replicate k.toNat x).flatten)
    | false => none)
  | .mul, .tup x, .int k => (match decide (1 ≤ k) && decide (k ≤ 1000) && decide (x.length ≤ 1000) && !x.isEmpty with
    | true => some (.tup (List.replicate k.toNat x).flatten)
    | false => none)
  | .fdiv, .int i, .int j => (match decide (0 < j) && decide (j.natAbs < 1073741824) with
    | true => some (.int (i / j))
    | false => none)
  | .mod, .int i, .int j => (match decide (0 < j) with
    | true => some (.int (i % j))
    | false => none)
  | .pow, .int i, .int j => (match decide (0 ≤ j) && decide (j ≤ 1000000) && decide (i.natAbs < 18446744073709551616) with
    | true => some (.int (i ^ j.toNat))
    | false => none)
  | _, _, _ => none
/-- the list a + b -/
def catL : D → D → Option (List D)
  | .lst x, .lst y => (match decide (x.length + y.length ≤ lim) with
    | true => some (x ++ y)
    | false => none)
  | _, _ => none

/-- the list a * n -/
def repL : D → D → Option (List D)
  | .lst x, .int k => (match decide (0 ≤ k) && (decide (k.natAbs ≤ 1000) && decide (x.length ≤ 1000)) with
    | true => some (List.replicate k.toNat x).flatten
    | false => none)
  | _, _ => none
def ltL : List Nat → List Nat → Bool
  | [], [] => false
  | [], _ :: _ => true
  | _ :: _, [] => false
  | x :: xs, y :: ys => decide (x < y) || (x == y && ltL xs ys)
inductive COp where
  | eq | ne | lt | le | gt | ge | isin | notin
  deriving DecidableEq
/-- is x among these -/
def memD (x : D) : List D → Option Bool
  | [] => some false
  | y :: ys => match y.flat with
    | true => (match memD x ys with
      | some b => some (y.eqv x || b)
      | none => none)
    | false => none
def memKey (x : D) : List (D × D) → Bool
  | [] => false
  | (k, _) :: r => k.eqv x || memKey x r
def isIn (a b : D) : Option Bool := match b with
  | .tup l | .lst l => (match a.flat with
    | true => memD a l
    | false => none)
  | .str s => (match a with
    | .str [c] => some (s.contains c)
    | _ => none)
  | .dct l => (match a with
    | .str _ => some (memKey a l)
    | _ => none)
  | _ => none
def cmpop : COp → D → D → Option Bool
  | .eq, a, b => pyEq a b
  | .ne, a, b => (pyEq a b).map (fun x => !x)
  | .lt, .int i, .int j => some (decide (i < j))
  | .lt, .str x, .str y => some (ltL x y)
  | .lt, .tup [.str x, .int i], .tup [.str y, .int j] => some (if x = y then decide (i < j) else ltL x y)
  | .le, .str x, .str y => some (!ltL y x)
  | .le, .int i, .int j => some (decide (i ≤ j))
  | .gt, .int i, .int j => some (decide (j < i))
  | .ge, .int i, .int j => some (decide (j ≤ i))
  | .isin, a, b => isIn a b
  | .notin, a, b => (isIn a b).map (fun x => !x)
  | _, _, _ => none

/-- a place among n by an index of any sign -/
def ixPos (n : Nat) (i : Int) : Option Nat :=
  if 0 ≤ i then (if i < n then some i.toNat else none) else if -(n : Int) ≤ i then some (i + n).toNat else none
def atIx {α : Type} (l : List α) (i : Int) : Option α := (ixPos l.length i).bind fun j => l[j]?
def lookK (x : D) : List (D × D) → Option D
  | [] => none
  | (k, v) :: r => if k.eqv x then some v else lookK x r
def index : D → D → Option D
  | .tup l, .int i | .lst l, .int i => atIx l i
  | .str s, .int i => (match decide (s.length ≤ lim) with
    | true => (atIx s i).map fun c => .str [c]
    | false => none)
  | .dct l, .str x => lookK (.str x) l
  | _, _ => none
/-- a slice's bound among n, d where it is left out -/
def bnd (n d : Nat) : Option Int → Nat
  | none => d
  | some v => if v < 0 then (v + (n : Int)).toNat else min v.toNat n
def cut {α : Type} (l : List α) (lo hi : Option Int) : List α :=
  (l.drop (bnd l.length 0 lo)).take (bnd l.length l.length hi - bnd l.length 0 lo)
def sliceV (d : D) (lo hi : Option Int) : Option D := match d with
  | .tup l => some (.tup (cut l lo hi))
  | .str s => (match decide (s.length ≤ lim) with
    | true => some (.str (cut s lo hi))
    | false => none)
  | _ => none
def sliceL (d : D) (lo hi : Option Int) : Option (List D) := match d with
  | .lst l => some (cut l lo hi)
  | .frz l => some (cut (l.map D.int) lo hi)
  | _ => none

inductive Ty where
  | int | bool | str | tup | lst | tupLst
  deriving DecidableEq
def isTy (s : Sto) : D → Ty → Option Bool
  | .non, _ => some false
  | .bl _, .int | .bl _, .bool => some true
  | .bl _, _ => some false
  | .int _, .int => some true
  | .int _, _ => some false
  | .str _, .str => some true
  | .str _, _ => some false
  | .tup _, .tup | .tup _, .tupLst => some true
  | .tup _, _ => some false
  | .lst _, .lst | .lst _, .tupLst => some true
  | .lst _, _ => some false
  | .dct _, _ => some false
  | .obj n, t => (match s.list n with
    | some _ => some (t == .lst || t == .tupLst)
    | none => none)
  | _, _ => none

def boolsOf : List D → Option (List Bool)
  | [] => some []
  | .bl b :: r => (boolsOf r).map (b :: ·)
  | _ => none
def strsOf : List D → Option (List (List Nat))
  | [] => some []
  | .str x :: r => (strsOf r).map (x :: ·)
  | _ => none
/-- the figures of a natural number -/
def figs (n : Nat) : List Nat := (toString n).toList.map (fun c => c.toNat)
def showInt (i : Int) : List Nat := (toString i).toList.map (fun c => c.toNat)
inductive B1 where
  | len | all | any | tuple | str | int | ord
  deriving DecidableEq
def b1 : B1 → D → Option D
  | .len, .str s => (match decide (s.length ≤ lim) with
    | true => some (.int s.length)
    | false => none)
  | .len, .tup l | .len, .lst l => some (.int l.length)
  | .all, .lst l => (boolsOf l).map fun b => .bl (b.all id)
  | .any, .lst l => (boolsOf l).map fun b => .bl (b.any id)
  | .tuple, .lst l => some (.tup l)
  | .tuple, .tup l => some (.tup l)
  | .str, .int i => (match decide (i.natAbs < 1000000000000000000000000000000) with
    | true => some (.str (showInt i))
    | false => none)
  | .str, .str s => some (.str s)
  | .int, .bl b => some (.int (cond b 1 0))
  | .int, .int i => some (.int i)
  | .ord, .str [c] => some (.int c)
  | _, _ => none
inductive B2 where
  | max | min
  deriving DecidableEq
def b2 : B2 → D → D → Option D
  | .max, .int i, .int j => some (.int (if j > i then j else i))
  | .min, .int i, .int j => some (.int (if j < i then j else i))
  | _, _, _ => none
/-- the parts between a sign -/
def splitC (c : Nat) : List Nat → List (List Nat)
  | [] => [[]]
  | x :: r => if x = c then [] :: splitC c r else (match splitC c r with
    | [] => [[x]]
    | p :: ps => (x :: p) :: ps)
def stripC (chars s : List Nat) : List Nat :=
  let lo := (s.takeWhile (fun c => chars.contains c)).length
  let hi := s.length - ((s.drop lo).reverse.takeWhile (fun c => chars.contains c)).length
  (s.drop lo).take (hi - lo)
def joinC (sep : List Nat) : List (List Nat) → List Nat
  | [] => []
  | [x] => x
  | x :: y :: r => x ++ (sep ++ joinC sep (y :: r))
def upC (c : Nat) : Nat := if 97 ≤ c ∧ c ≤ 122 then c - 32 else c
def findS (x : List Nat) : List (List Nat) → Option Nat
  | [] => none
  | y :: r => if y = x then some 0 else (findS x r).map (· + 1)
/-- in its place among texts in order -/
def insS (x : List Nat) : List (List Nat) → List (List Nat)
  | [] => [x]
  | y :: r => if ltL x y then x :: y :: r else y :: insS x r
def sortC (l : List (List Nat)) : List (List Nat) := l.foldr insS []
def sortV : D → Option (List D)
  | .lst l => (match decide (l.length < 64) with
    | true => (strsOf l).map fun ys => (sortC ys).map D.str
    | false => none)
  | _ => none
inductive Mt where
  | strip | join | upper | index | get | getd
  deriving DecidableEq
def meth : Mt → D → List D → Option D
  | .strip, .str x, [.str y] => (match decide (x.length ≤ lim) with
    | true => some (.str (stripC y x))
    | false => none)
  | .join, .str x, [.lst l] => (strsOf l).bind fun ys => (match decide ((ys.map List.length).sum + ys.length * x.length ≤ lim) with
    | true => some (.str (joinC x ys))
    | false => none)
  | .upper, .str x, [] => (match x.all (fun c => decide (c < 128)) && decide (x.length ≤ 1000000) with
    | true => some (.str (x.map upC))
    | false => none)
  | .index, .tup l, [.str x] => (strsOf l).bind fun ys => (findS x ys).map fun k => .int k
  | .get, .dct l, [x] => (match x with
    | .str _ | .non => some ((lookK x l).getD .non)
    | _ => none)
  | .getd, .dct l, [x, d] => (match x with
    | .str _ | .non => some ((lookK x l).getD d)
    | _ => none)
  | _, _, _ => none
/-- x.split(c), one sign -/
def splitV : D → D → Option (List D)
  | .str x, .str [c] => (match decide (x.length + 2 ≤ lim) && decide (c < 128) with
    | true => some ((splitC c x).map D.str)
    | false => none)
  | _, _ => none

/-! ## The inner language -/
inductive Tg where
  | name (i : Nat) | tup (is : List Nat)
  deriving DecidableEq
mutual
inductive E where
  | v (i : Nat)
  | k (d : D)
  | g (j : Nat)
  | bin (o : BOp) (a b : E)
  | neg (a : E)
  | cmp (o : COp) (a b : E)
  | chain (o p : COp) (a b c : E)
  | isN (a : E) | notN (a : E)
  | and (a b : E) | or (a b : E) | not (a : E)
  | ite (c a b : E)
  | call (f : Nat) (as : Es)
  | dyn (a : E) (as : Es)
  | isin (a : E) (t : Ty)
  | b1 (f : B1) (a : E)
  | b2 (f : B2) (a b : E)
  | m (f : Mt) (o : E) (as : Es)
  | me (c f : Nat) (o : E) (as : Es)
  | mk (c f : Nat) (as : Es)
  | newL (as : Es)
  | fld (o : E) (f : Nat)
  | ix (a b : E)
  | sl (a : E) (lo hi : Oe)
  | tup (as : Es)
  | fl (f : F)
  | fw (a : E) (caps : List Nat) (n : Nat) (b : E)
  | lenO (i : Nat) | inO (neg : Bool) (a : E) (i : Nat) | ixO (i : Nat) (a : E)
  | pop (a : E)
  | bad
inductive F where
  | lst (as : Es)
  | cat (a b : E)
  | rep (a b : E)
  | slc (a : E) (lo hi : Oe)
  | lc (elt : E) (tg : Tg) (it : Src) (c : Oe) (own : List Nat)
  | list (a : E)
  | split (a b : E)
  | srt (a : E)
inductive Src where
  | seq (a : E) | rng1 (a : E) | rng2 (a b : E) | zip (a b : E) | rev (a : E)
inductive Es where
  | nil | cons (e : E) (r : Es)
inductive Oe where
  | none | some (e : E)
end
/-- what an except suite returns: (False, word) | word | head + word | None -/
inductive Hd where
  | tf | wd | pre (s : List Nat) | non
mutual
inductive S where
  | set (i : Nat) (e : E)
  | own (i : Nat) (f : F)
  | unp (is : List Nat) (e : E)
  | par (is : List Nat) (e : E)
  | paro (i j : Nat) (a : E) (f : F)
  | ex (e : E)
  | app (i : Nat) (e : E)
  | ext (i : Nat) (e : E)
  | ins (i : Nat) (a e : E)
  | setO (i : Nat) (a e : E)
  | appS (o e : E)
  | setI (o a e : E)
  | setF (o : E) (f : Nat) (e : E)
  | unp2 (i : Nat) (o a e : E)
  | ret (e : E)
  | retN
  | ifs (c : E) (t e : Ss)
  | for_ (tg : Tg) (it : Src) (b : Ss)
  | while_ (c : E) (b : Ss)
  | raise_ (c : Nat) (e : E)
  | try_ (b : Ss) (h : Hd) (slot : Nat) (cl : List Nat)
  | brk | cont | pass
  | bad
inductive Ss where
  | nil | cons (s : S) (r : Ss) | frz (i : Nat) (r : Ss)
end

/-! ## What it comes to -/
abbrev Calls := Nat → List D → Sto → Rs D
def Env.get (e : Env) (i : Nat) : Option D := match e[i]? with
  | some (.val d) => some d
  | _ => none
def Env.getO (e : Env) (i : Nat) : Option (List D) := match e[i]? with
  | some (.own l) => some l
  | _ => none
def getAll : List Nat → Env → Option (List D)
  | [], _ => some []
  | i :: is, e => match e.get i, getAll is e with
    | some d, some r => some (d :: r)
    | _, _ => none
def setAll : List Nat → List D → Env → Option Env
  | [], [], e => some e
  | i :: is, d :: ds, e => setAll is ds (e.set i (.val d))
  | _, _, _ => none
/-- .. from the last one on -/
def setRev (is : List Nat) (ds : List D) (e : Env) : Env := (is.zip ds).reverse.foldl (fun e p => e.set p.1 (.val p.2)) e
def bindTg : Tg → D → Env → Option Env
  | .name i, d, e => some (e.set i (.val d))
  | .tup is, .tup ds, e => setAll is ds e
  | .tup _, _, _ => none
def wipeE (e : Env) : List Nat → Env
  | [] => e
  | i :: is => (wipeE e is).set i .non
def truthR (d : D) (s : Sto) : Rs Bool := Rs.of (truth (der s d)) s
/-- the items that a comprehension makes -/
def lcGo (tg : Tg) (env : Env) (c : Env → Sto → Rs Bool) (elt : Env → Sto → Rs D) : List D → Sto → Rs (List D)
  | [], s => .ok [] s
  | d :: ds, s => (Rs.of (bindTg tg d env) s).bind fun env1 s => (c env1 s).bind fun b s => match b with
    | true => (elt env1 s).bind fun x s => (lcGo tg env c elt ds s).bind fun xs s => .ok (x :: xs) s
    | false => lcGo tg env c elt ds s
def noEx {α : Type} : Rs α → Rs α
  | .ok l s => .ok l s
  | _ => .bad
/-- a body's slots, at its parameters -/
def startE (n : Nat) (ds : List D) : Env := ds.map Slot.val ++ List.replicate (n - ds.length) .non
def fwGo (p : Nat → Sto → Rs Bool) : Nat → Nat → Sto → Rs D
  | _, 0, s => .ok .non s
  | k, n + 1, s => (p k s).bind fun b s => match b with
    | true => .ok (.int k) s
    | false => fwGo p (k + 1) n s
def rngL (lo : Int) (n : Nat) : List D := (List.range n).map fun (i : Nat) => D.int (lo + (i : Int))
def midInt (i : Int) : Bool := decide (i.natAbs < 4611686018427387904)
def zipL : List D → List D → List D
  | x :: xs, y :: ys => .tup [x, y] :: zipL xs ys
  | _, _ => []
def seqIt : D → Option (List D)
  | .tup l | .lst l => some l
  | .str s => (match decide (s.length ≤ lim) with
    | true => some (s.map fun c => .str [c])
    | false => none)
  | _ => none
def zipIt : D → D → Option (List D)
  | .tup a, .tup b | .lst a, .lst b => some (zipL a b)
  | _, _ => none
def revIt : D → Option (List D)
  | .lst l => some l.reverse
  | _ => none
def rng1 : D → Option (List D)
  | .int i => (match midInt i with
    | true => some (rngL 0 i.toNat)
    | false => none)
  | _ => none
def rng2 : D → D → Option (List D)
  | .int i, .int j => (match midInt i && midInt j with
    | true => some (rngL i (j - i).toNat)
    | false => none)
  | _, _ => none
def optInt : D → Option Int
  | .int i => some i
  | _ => none
def lookF (f : Nat) : List (Nat × D) → Option D
  | [] => none
  | (g, d) :: r => if g = f then some d else lookF f r
def putF (f : Nat) (d : D) : List (Nat × D) → List (Nat × D)
  | [] => [(f, d)]
  | (g, x) :: r => if g = f then (g, d) :: r else (g, x) :: putF f d r
def fldOf (s : Sto) (f : Nat) : D → Option D
  | .obj n => (match s[n]? with
    | some (.ins _ fs) => lookF f fs
    | _ => none)
  | _ => none
def clsOf (s : Sto) : D → Option Nat
  | .obj n => (match s[n]? with
    | some (.ins c _) => some c
    | _ => none)
  | _ => none
def noneAll (c : Nat) (s : Sto) (d : D) : Option Unit := match clsOf s d with
  | some c' => if c' = c then some () else none
  | none => none
/-- a function value's number -/
def D.fnOf : D → Option Nat
  | .fn f => some f
  | _ => none
def mkC (C : Calls) (c f : Nat) (as : List D) (s : Sto) : Rs D :=
  (C f (.obj s.length :: as) (s ++ [.ins c []])).bind fun d s1 => match d with
    | .non => .ok (.obj s.length) s1
    | _ => .bad
def popS (d : D) (s : Sto) : Rs D := match d with
  | .obj n => (match s.list n with
    | some l => (match l.getLast? with
      | some x => .ok x (s.set n (.lst l.dropLast))
      | none => .bad)
    | none => .bad)
  | _ => .bad

section
variable (C : Calls) (G : Nat → D)
mutual
def evE : E → Env → Sto → Rs D
  | .v i, e, s => Rs.of (e.get i) s
  | .k d, _, s => .ok d s
  | .g j, _, s => .ok (G j) s
  | .bin o a b, e, s => (evE a e s).bind fun x s => (evE b e s).bind fun y s => Rs.of (binop o x y) s
  | .neg a, e, s => (evE a e s).bind fun x s => (match x with
    | .int i => .ok (.int (-i)) s
    | _ => .bad)
  | .cmp o a b, e, s => (evE a e s).bind fun x s => (evE b e s).bind fun y s => Rs.of ((cmpop o (der s x) (der s y)).map D.bl) s
  | .chain o p a b c, e, s => (evE a e s).bind fun x s => (evE b e s).bind fun y s => (Rs.of (cmpop o (der s x) (der s y)) s).bind fun t s => match t with
    | true => (evE c e s).bind fun z s => Rs.of ((cmpop p (der s y) (der s z)).map D.bl) s
    | false => .ok (.bl false) s
  | .isN a, e, s => (evE a e s).bind fun x s => .ok (.bl x.isNon) s
  | .notN a, e, s => (evE a e s).bind fun x s => .ok (.bl (!x.isNon)) s
  | .and a b, e, s => (evE a e s).bind fun x s => (truthR x s).bind fun t s => match t with
    | true => evE b e s
    | false => .ok x s
  | .or a b, e, s => (evE a e s).bind fun x s => (truthR x s).bind fun t s => match t with
    | true => .ok x s
    | false => evE b e s
  | .not a, e, s => (evE a e s).bind fun x s => (truthR x s).bind fun t s => .ok (.bl (!t)) s
  | .ite c a b, e, s => (evE c e s).bind fun x s => (truthR x s).bind fun t s => match t with
    | true => evE a e s
    | false => evE b e s
  | .call f as, e, s => (evEs as e s).bind fun xs s => C f xs s
  | .dyn a as, e, s => (evE a e s).bind fun x s => (Rs.of x.fnOf s).bind fun f s => (evEs as e s).bind fun xs s => C f xs s
  | .isin a t, e, s => (evE a e s).bind fun x s => Rs.of ((isTy s x t).map D.bl) s
  | .b1 f a, e, s => (evE a e s).bind fun x s => Rs.of (b1 f (der s x)) s
  | .b2 f a b, e, s => (evE a e s).bind fun x s => (evE b e s).bind fun y s => Rs.of (b2 f x y) s
  | .m f o as, e, s => (evE o e s).bind fun x s => (evEs as e s).bind fun xs s => Rs.of (meth f (der s x) (xs.map (der s))) s
  | .me c f o as, e, s => (evE o e s).bind fun x s => (Rs.of (noneAll c s x) s).bind fun _ s => (evEs as e s).bind fun xs s => C f (x :: xs) s
  | .mk c f as, e, s => (evEs as e s).bind fun xs s => mkC C c f xs s
  | .newL as, e, s => (evEs as e s).bind fun xs s => (match decide (xs.length ≤ lim) with
    | true => .ok (.obj s.length) (s ++ [.lst xs])
    | false => .bad)
  | .fld o f, e, s => (evE o e s).bind fun x s => Rs.of (fldOf s f x) s
  | .ix a b, e, s => (evE a e s).bind fun x s => (evE b e s).bind fun y s => Rs.of (index (der s x) y) s
  | .sl a lo hi, e, s => (evE a e s).bind fun x s => (evO lo e s).bind fun l s => (evO hi e s).bind fun h s => Rs.of (sliceV x l h) s
  | .tup as, e, s => (evEs as e s).bind fun xs s => (match decide (xs.length ≤ lim) with
    | true => .ok (.tup xs) s
    | false => .bad)
  | .fl f, e, s => (evF f e s).bind fun xs s => .ok (.lst xs) s
  | .fw a caps nl b, e, s => (evE a e s).bind fun x s => (Rs.of (b1 .len (der s x)) s).bind fun n s => (Rs.of (getAll caps e) s).bind fun vs s => (match n with
    | .int n => (match midInt n with
      | true => noEx (fwGo (fun i s => (evE b (startE nl (.int i :: vs)) s).bind truthR) 0 n.toNat s)
      | false => .bad)
    | _ => .bad)
  | .lenO i, e, s => (Rs.of (e.getO i) s).bind fun l s => .ok (.int l.length) s
  | .inO neg a i, e, s => (evE a e s).bind fun x s => (Rs.of (e.getO i) s).bind fun l s => Rs.of ((isIn x (.lst l)).map fun b => .bl (b != neg)) s
  | .ixO i a, e, s => (Rs.of (e.getO i) s).bind fun l s => (evE a e s).bind fun y s => Rs.of (index (.lst l) y) s
  | .pop a, e, s => (evE a e s).bind popS
  | .bad, _, _ => .bad
def evF : F → Env → Sto → Rs (List D)
  | .lst as, e, s => (evEs as e s).bind fun xs s => (match decide (xs.length ≤ lim) with
    | true => .ok xs s
    | false => .bad)
  | .cat a b, e, s => (evE a e s).bind fun x s => (evE b e s).bind fun y s => Rs.of (catL (der s x) (der s y)) s
  | .slc a lo hi, e, s => (evE a e s).bind fun x s => (evO lo e s).bind fun l s => (evO hi e s).bind fun h s => Rs.of (sliceL (der s x) l h) s
  | .lc elt tg it c own, e, s => (evIt it e s).bind fun ds s => (match decide (ds.length ≤ lim) with
    | true => noEx (lcGo tg (wipeE e own) (evC c) (evE elt) ds s)
    | false => .bad)
  | .list a, e, s => (evE a e s).bind fun x s => (match der s x with
    | .lst l | .tup l => .ok l s
    | _ => .bad)
  | .split a b, e, s => (evE a e s).bind fun x s => (evE b e s).bind fun y s => Rs.of (splitV x y) s
  | .srt a, e, s => (evE a e s).bind fun x s => Rs.of (sortV (der s x)) s
  | .rep a b, e, s => (evE a e s).bind fun x s => (evE b e s).bind fun y s => Rs.of (repL (der s x) y) s
def evIt : Src → Env → Sto → Rs (List D)
  | .seq a, e, s => (evE a e s).bind fun x s => Rs.of (seqIt x) s
  | .rng1 a, e, s => (evE a e s).bind fun x s => Rs.of (rng1 x) s
  | .rng2 a b, e, s => (evE a e s).bind fun x s => (evE b e s).bind fun y s => Rs.of (rng2 x y) s
  | .zip a b, e, s => (evE a e s).bind fun x s => (evE b e s).bind fun y s => Rs.of (zipIt x y) s
  | .rev a, e, s => (evE a e s).bind fun x s => Rs.of (revIt x) s
def evEs : Es → Env → Sto → Rs (List D)
  | .nil, _, s => .ok [] s
  | .cons a r, e, s => (evE a e s).bind fun x s => (evEs r e s).bind fun xs s => .ok (x :: xs) s
/-- a slice's part -/
def evO : Oe → Env → Sto → Rs (Option Int)
  | .none, _, s => .ok none s
  | .some a, e, s => (evE a e s).bind fun x s => (Rs.of (optInt x) s).bind fun i s => .ok (some i) s
/-- a comprehension's test -/
def evC : Oe → Env → Sto → Rs Bool
  | .none, _, s => .ok true s
  | .some a, e, s => (evE a e s).bind truthR
end

def forGo (tg : Tg) (body : Env → Sto → SRs) : List D → Env → Sto → SRs
  | [], e, s => .nx e s
  | d :: ds, e, s => (Rs.of (bindTg tg d e) s).bindS e fun e1 s => match body e1 s with
    | .nx e s | .ct e s => forGo tg body ds e s
    | .bk e s => .nx e s
    | r => r
def whileGo (c : Env → Sto → Rs Bool) (body : Env → Sto → SRs) : Nat → Env → Sto → SRs
  | 0, _, _ => .bad
  | n + 1, e, s => (c e s).bindS e fun b s => match b with
    | false => .nx e s
    | true => (match body e s with
      | .nx e s | .ct e s => whileGo c body n e s
      | .bk e s => .nx e s
      | r => r)
def fuel : Nat := 1000000
/-- the list of a stored list's value -/
def lstOf (s : Sto) : D → Option (List D)
  | .obj n => s.list n
  | _ => none
/-- the word of the class c -/
def wdG (G : Nat → D) (c : Nat) : Option (List Nat) := match G (1000 + c) with
  | .str w => some w
  | _ => none
def hdW (h : Hd) (w : List Nat) : Option D := match h with
  | .tf => some (.tup [.bl false, .str w])
  | .wd => some (.str w)
  | .pre s => (match decide (s.length + w.length ≤ lim) with
    | true => some (.str (s ++ w))
    | false => none)
  | .non => some .non
/-- a plain exception's row -/
def noRow : D := .dct []
def hdV (G : Nat → D) (h : Hd) (c : Nat) (r : D) : Option D := match r with
  | .dct [] => (wdG G c).bind (hdW h)
  | _ => none
def setIS (o a x : D) (e : Env) (s : Sto) : SRs := match o, a with
  | .obj n, .int i => (match s.list n with
    | some l => (match ixPos l.length i with
      | some j => .nx e (s.set n (.lst (l.set j x)))
      | none => .bad)
    | none => .bad)
  | _, _ => .bad
def appSS (o x : D) (e : Env) (s : Sto) : SRs := match o with
  | .obj n => (match s.list n with
    | some l => (match decide (l.length < lim) with
      | true => .nx e (s.set n (.lst (l ++ [x])))
      | false => .bad)
    | none => .bad)
  | _ => .bad
def setFS (o : D) (f : Nat) (x : D) (e : Env) (s : Sto) : SRs := match o with
  | .obj n => (match s[n]? with
    | some (.ins c fs) => (match decide (fs.length < 1000) with
      | true => .nx e (s.set n (.ins c (putF f x fs)))
      | false => .bad)
    | _ => .bad)
  | _ => .bad
def extO (l : List D) (i : Nat) (x : D) (e : Env) (s : Sto) : SRs := match der s x with
  | .lst r => (match decide (l.length + r.length ≤ lim) with
    | true => .nx (e.set i (.own (l ++ r))) s
    | false => .bad)
  | _ => .bad
def insO (l : List D) (i : Nat) (a x : D) (e : Env) (s : Sto) : SRs := match a with
  | .int k => (match decide (0 ≤ k) && decide (k ≤ l.length) && decide (l.length < 1000000) with
    | true => .nx (e.set i (.own (l.take k.toNat ++ x :: l.drop k.toNat))) s
    | false => .bad)
  | _ => .bad
def setOO (l : List D) (i : Nat) (a x : D) (e : Env) (s : Sto) : SRs := match a with
  | .int k => (match ixPos l.length k with
    | some j => .nx (e.set i (.own (l.set j x))) s
    | none => .bad)
  | _ => .bad
def unpS (is : List Nat) (x : D) (e : Env) (s : Sto) : SRs := match x with
  | .tup ds => (Rs.of (setAll is ds e) s).bindS e fun e s => .nx e s
  | _ => .bad
def frzE (i : Nat) (e : Env) : Option Env := match e[i]? with
  | some (.own l) => some (e.set i (.val (.lst l)))
  | some (.ownD l) => some (e.set i (.val (.dct l)))
  | _ => none
mutual
def evS : S → Env → Sto → SRs
  | .set i a, e, s => (evE C G a e s).bindS e fun x s => .nx (e.set i (.val x)) s
  | .own i f, e, s => (evF C G f e s).bindS e fun l s => .nx (e.set i (.own l)) s
  | .unp is a, e, s => (evE C G a e s).bindS e fun x s => unpS is x e s
  | .par is a, e, s => (evE C G a e s).bindS e fun x s => (match x with
    | .tup ds => (match decide (ds.length = is.length) with
      | true => .nx (setRev is ds e) s
      | false => .bad)
    | _ => .bad)
  | .paro i j a f, e, s => (evE C G a e s).bindS e fun x s => (evF C G f e s).bindS e fun l s => .nx ((e.set j (.own l)).set i (.val x)) s
  | .ex a, e, s => (evE C G a e s).bindS e fun _ s => .nx e s
  | .app i a, e, s => (Rs.of (e.getO i) s).bindS e fun l s => (evE C G a e s).bindS e fun x s => (match decide (l.length < lim) with
    | true => .nx (e.set i (.own (l ++ [x]))) s
    | false => .bad)
  | .ext i a, e, s => (Rs.of (e.getO i) s).bindS e fun l s => (evE C G a e s).bindS e fun x s => extO l i x e s
  | .ins i a b, e, s => (Rs.of (e.getO i) s).bindS e fun l s => (evE C G a e s).bindS e fun k s => (evE C G b e s).bindS e fun x s => insO l i k x e s
  | .setO i a b, e, s => (Rs.of (e.getO i) s).bindS e fun l s => (evE C G b e s).bindS e fun x s => (evE C G a e s).bindS e fun k s => setOO l i k x e s
  | .appS o a, e, s => (evE C G o e s).bindS e fun y s => (Rs.of (lstOf s y) s).bindS e fun _ s => (evE C G a e s).bindS e fun x s => appSS y x e s
  | .setI o a b, e, s => (evE C G b e s).bindS e fun x s => (evE C G o e s).bindS e fun y s => (evE C G a e s).bindS e fun k s => setIS y k x e s
  | .setF o f b, e, s => (evE C G b e s).bindS e fun x s => (evE C G o e s).bindS e fun y s => setFS y f x e s
  | .unp2 i o a b, e, s => (evE C G b e s).bindS e fun t s => (match t with
    | .tup [x, z] => (evE C G o (e.set i (.val x)) s).bindS (e.set i (.val x)) fun y s => (evE C G a (e.set i (.val x)) s).bindS (e.set i (.val x)) fun k s => setIS y k z (e.set i (.val x)) s
    | _ => .bad)
  | .ret a, e, s => (evE C G a e s).bindS e fun x s => .rt x s
  | .retN, _, s => .rt .non s
  | .ifs c t f, e, s => (evE C G c e s).bindS e fun x s => (truthR x s).bindS e fun b s => match b with
    | true => evSs t e s
    | false => evSs f e s
  | .for_ tg it b, e, s => (evIt C G it e s).bindS e fun ds s => forGo tg (evSs b) ds e s
  | .while_ c b, e, s => whileGo (fun e s => (evE C G c e s).bind truthR) (evSs b) fuel e s
  | .raise_ c a, e, s => (evE C G a e s).bindS e fun x s => .ex c x e s
  | .try_ b h i cl, e, s => (match evSs b e s with
    | .ex c r e1 s1 => (match decide (c < 24) with
      | false => .bad
      | true => (match cl.contains c with
      | true => (match decide (i < e1.length) with
        | true => (match hdV G h c r with
          | some d => .rt d s1
          | none => .bad)
        | false => .bad)
      | false => .ex c r e1 s1))
    | r => r)
  | .brk, e, s => .bk e s
  | .cont, e, s => .ct e s
  | .pass, e, s => .nx e s
  | .bad, _, _ => .bad
def evSs : Ss → Env → Sto → SRs
  | .nil, e, s => .nx e s
  | .cons a r, e, s => (evS a e s).bind fun e s => evSs r e s
  | .frz i r, e, s => (match frzE i e with
    | some e => evSs r e s
    | none => .bad)
end
def runB (n : Nat) (b : Ss) (ds : List D) (s : Sto) : Rs D := match evSs C G b (startE n ds) s with
  | .rt d s => .ok d s
  | .nx _ s => .ok .non s
  | .ex c r _ s => .ex c r s
  | _ => .bad
end
/-- a def: how many names, how many parameters, its body -/
structure Fn where
  n : Nat
  p : Nat
  b : Ss
/-- so many calls deep -/
def callK (G : Nat → D) (T : Nat → Option Fn) : Nat → Calls
  | 0 => fun _ _ _ => .bad
  | k + 1 => fun f ds s => match T f with
    | some F => if ds.length = F.p then runB (callK G T k) G F.n F.b ds s else .bad
    | none => .bad
end Ms

set_option Elab.async false
set_option linter.all false
set_option autoImplicit false
set_option maxRecDepth 100000
set_option maxHeartbeats 2000000
namespace Ms
open PySem PySem.Spec L2
open PyProof.Rows hiding St
/-! ## A law's data, the looks at the heap behind the top -/
def okSB (s : List Nat) : Bool := s.all fun c => decide (c < 1114112)
/-- a def's row -/
structure DR where
  f : Nat
  st : Stmt
  at_ : Str × Option Str
  name : Str
  qual : Str
  N : List Str
  lam : Bool
def DR.as (d : DR) : List Arg := (defArgs d.st).args
def DR.ps (d : DR) : List Str := d.as.map (·.arg)
def DR.d (d : DR) : He.DefD := ⟨d.at_, d.name, d.qual, defArgs d.st, defBody d.st, defScope d.st, [], []⟩
/-- what a law brings -/
structure LD where
  prog : Program
  defs : List DR
  T : Nat → Option Fn
  G : Nat → D
  /-- names of the exceptions' classes, of the instances' classes -/
  xn : List Str
  cn : List Str
  c0 : Str
  /-- those that are raised -/
  xr : List (Nat × Str)
  fdn : List (Nat × Str)
  gns : List (Nat × Str)
  /-- tuples of texts, by index -/
  tgs : List (Nat × Str)
  /-- dicts: number, name, keys and values -/
  dns : List (Nat × Str × List (Str × D))
  mks : List (Nat × Nat × Str)
  mts : List (Nat × Nat × Str)
  bi : List Str
  /-- first_where, _law_word -/
  fwd : Option DR
  wdd : Option DR
  /-- the classes that have a word -/
  wcl : List Nat
  dy : List Nat
  tf : List Str
section
variable (l : LD)
def LD.at (f : Nat) : Str × Option Str := match l.defs.find? (fun d => d.f == f) with
  | some d => d.at_
  | none => ("", none)
def LD.fa (K : PySem.W.Frag) (f : Nat) : Addr := He.fAd K (l.at f)
def LD.xa (K : PySem.W.Frag) (c : Nat) : Addr := He.ga K (l.xn.getD c "DeckError")
def LD.ca (K : PySem.W.Frag) (c : Nat) : Addr := He.ga K (l.cn.getD c l.c0)
mutual
def denB (K : PySem.W.Frag) : D → Value → Bool
  | .non, u => (match u with
    | .none => true
    | _ => false)
  | .bl b, u => (match u with
    | .bool c => b == c
    | _ => false)
  | .int i, u => (match u with
    | .int j _ => decide (i = j)
    | _ => false)
  | .str s, u => (match u with
    | .str y _ => decide (y.cps.toList = s) && okSB s
    | _ => false)
  | .tup ds, u => (match u with
    | .ref a => (match K.lookup a with
      | some ⟨.type c, _, .seq its _, _⟩ => decide (c = "tuple") && decide (its.size ≤ sizeLine) && denBL K ds its.toList
      | _ => false)
    | _ => false)
  | .fn n, u => (match u with
    | .ref a => decide (a = l.fa K n) && l.dy.contains n
    | _ => false)
  | _, _ => false
def denBL (K : PySem.W.Frag) : List D → List Value → Bool
  | [], us => us.isEmpty
  | d :: ds, us => (match us with
    | u :: us => denB K d u && denBL K ds us
    | [] => false)
end
end
def kvsB (l : LD) (K : PySem.W.Frag) (a : Addr) (kvs : List (Str × D)) : Bool := kvs.all fun q => okSB q.1.cps.toList && (match PySem.W.nsIn K a q.1 with
  | some (some u) => denB l K q.2 u
  | _ => false)
def LD.cnm (l : LD) (c : Nat) : Str := l.cn.getD c l.c0
def LD.ts (l : LD) : List He.Tab := l.dns.map fun p => (fun K => He.ga K p.2.1, p.2.2.map (·.1))
def LD.all (l : LD) : List DR := l.defs ++ (l.fwd.toList ++ l.wdd.toList)
def LD.fns (l : LD) : List He.DefD := l.all.map DR.d
/-- whether the class of the exception that is handled is told by the word's def -/
def excCB (K : PySem.W.Frag) (D : Addr) : Bool :=
  decide (PySem.W.findIn K (.ref D) "__getattribute__" = some (some (.builtin "BaseException.__getattribute__"))) && (decide (PySem.W.findIn K (.ref D) "__getattr__" = some none) && (decide (PySem.W.subIn K (.ref D) (.type "BaseException") = some true) && (PySem.W.hasDictIn K D &&
  (decide (PySem.W.findIn K (.ref D) "__class__" = some (some (.builtin "object.__class__"))) && (decide (PySem.W.specialIn K (.builtin "object.__class__") "__get__" = some (some (.builtin "getset_descriptor.__get__"))) && (decide (PySem.W.takesIn K (.builtin "object.__class__") = some true) &&
  (decide (PySem.W.mroIn K D (.type "object") = some true) && decide (PySem.W.kitOne K (.ref D) (.type "ValueError") = some true))))))))
def LD.wordB (l : LD) (K : PySem.W.Frag) : Bool := l.wcl.all fun c => excCB K (l.xa K c) && (List.range 23).all fun i => (He.Fa.glo (l.xn.getD i "DeckError")).ok K && decide (PySem.W.kitOne K (.ref (l.xa K c)) (.ref (He.ga K (l.xn.getD i "DeckError"))) = some (c == i))
def strsEq : List (List Nat) → List Value → Bool
  | [], us => us.isEmpty
  | y :: ys, us => (match us with
    | .str z _ :: us => decide (z.cps.toList = y) && strsEq ys us
    | _ => false)
def tupSB (K : PySem.W.Frag) (x : Str) (d : D) : Bool := match d with
  | .tup ds => (match strsOf ds with
    | some ys => (match PySem.W.nsIn K mainGlobals x with
      | some (some (.ref a)) => (match K.lookup a with
        | some ⟨.type c, none, .seq its _, _⟩ => decide (c = "tuple") && decide (its.size ≤ sizeLine) && strsEq ys its.toList
        | _ => false)
      | _ => false)
    | none => false)
  | _ => false
def LD.ex1 (l : LD) (K : PySem.W.Frag) : Bool :=
  (l.all.all fun d => match d.at_.2 with
    | none => (He.Fa.glo d.at_.1).ok K
    | some _ => true) &&
  ((l.bi.all fun x => (He.Fa.free x).ok K) &&
  ((l.fdn.isEmpty || (l.c0 :: l.cn).all fun x => (He.Fa.cls x).ok K && l.fdn.all fun f => (He.Fa.noat x f.2).ok K) &&
  ((l.mts.all fun p => (He.Fa.cls (l.cnm p.1)).ok K && (He.Fa.meth (l.cnm p.1) p.2.2).ok K) &&
  ((l.mks.all fun p => (He.Fa.glo p.2.2).ok K && (He.Fa.mkr p.2.2).ok K) &&
  ((l.gns.all fun p => match PySem.W.nsIn K mainGlobals p.2 with
    | some (some u) => denB l K (l.G p.1) u
    | _ => false) &&
  ((l.dns.all fun p => (He.Fa.glo p.2.1).ok K && kvsB l K (He.ga K p.2.1) p.2.2) &&
  ((l.tgs.all fun p => tupSB K p.2 (l.G p.1)) &&
  decide ((l.tf.map fun x => (He.cT K (x, none)).2).Nodup))))))))
def LD.ex2 (l : LD) (K : PySem.W.Frag) : Bool :=
  (l.xr.all fun p => (He.Fa.glo p.2).ok K && (He.Fa.exc p.2).ok K) &&
  (((He.Fa.glo "DeckError").ok K && (List.range 24).all fun c => (He.Fa.exm (l.xn.getD c "DeckError") "DeckError" true).ok K) && l.wordB K)
def LD.exB (l : LD) (K : PySem.W.Frag) : Bool := l.ex1 K && l.ex2 K
theorem LD.ex_eq (l : LD) : l.exB = fun K => l.ex1 K && l.ex2 K := rfl
/-! ## The looks at the heap behind the top: all its objects, but empty tables -/
def frN (g : Addr → Option Obj) : Nat → PySem.W.Frag
  | 0 => []
  | n + 1 => frN g n ++ (match g n with
    | some o => (match He.emptyTab o with
      | true => []
      | false => [(n, o)])
    | none => [])
/-- the same, each object's head told first -/
def frF {β : Type} (g : Addr → Option Obj) : Nat → PySem.W.Frag → (PySem.W.Frag → β) → β
  | 0, acc, k => k acc
  | n + 1, acc, k => (match g n with
    | some ⟨c, d, dt, sl⟩ => (match He.emptyTab ⟨c, d, dt, sl⟩ with
      | true => frF g n acc k
      | false => frF g n ((n, ⟨c, d, dt, sl⟩) :: acc) k)
    | none => frF g n acc k)
theorem frF_eq {β : Type} (g : Addr → Option Obj) : ∀ (n : Nat) (acc : PySem.W.Frag) (k : PySem.W.Frag → β), frF g n acc k = k (frN g n ++ acc)
  | 0, acc, k => rfl
  | n + 1, acc, k => by
    unfold frF frN
    cases q : g n with
    | none => simp only [List.append_nil]; exact frF_eq g n acc k
    | some o =>
      obtain ⟨c, d, dt, sl⟩ := o
      simp only
      cases He.emptyTab ⟨c, d, dt, sl⟩ with
      | true => simp only [List.append_nil]; exact frF_eq g n acc k
      | false => simp only [List.append_assoc, List.cons_append, List.nil_append]; exact frF_eq g n _ k
theorem frN_mem {g : Addr → Option Obj} {a : Addr} {o : Obj} : ∀ {n : Nat}, (a, o) ∈ frN g n → g a = some o ∧ He.emptyTab o = false
  | 0, h => by cases h
  | n + 1, h => by
    unfold frN at h
    rcases List.mem_append.mp h with h | h
    · exact frN_mem h
    · cases q : g n with
      | none => rw [q] at h; cases h
      | some u =>
        rw [q] at h
        simp only at h
        cases e : He.emptyTab u with
        | true => rw [e] at h; cases h
        | false =>
          rw [e] at h
          simp only [List.mem_singleton, Prod.mk.injEq] at h
          obtain ⟨rfl, rfl⟩ := h
          exact ⟨q, e⟩
theorem frN_in {n : Nat} {h : Heap} : (frN h.get? n).In h := fun _ _ e => (frN_mem (He.lookup_mem e)).1
theorem frN_none {g : Addr → Option Obj} {n : Nat} {a : Addr} {o : Obj} (h : g a = some o) (ht : He.emptyTab o = true) : (frN g n).lookup a = none := by
  cases e : (frN g n).lookup a with
  | none => rfl
  | some u =>
    obtain ⟨h1, h2⟩ := frN_mem (He.lookup_mem e)
    rw [h] at h1
    rw [← Option.some.inj h1, ht] at h2
    cases h2
section
variable (N : Nat) (fn : List He.DefD) (ts : List He.Tab) (tf : List He.Defn) (ex : PySem.W.Frag → Bool)
def obsK (g : Addr → Option Obj) (K : PySem.W.Frag) : He.AlX := (He.obsT [] fn ts K, ex K && He.tabsB g tf K)
def obsY (g : Addr → Option Obj) : He.AlX := obsK fn ts tf ex g (frN g N)
def obsF (g : Addr → Option Obj) : He.AlX := frF g N [] (obsK fn ts tf ex g)
theorem obsF_eq (g : Addr → Option Obj) : obsF N fn ts tf ex g = obsY N fn ts tf ex g := by
  unfold obsF obsY
  rw [frF_eq, List.append_nil]
variable {N fn ts tf ex}
theorem saysY_of {w : World} {h : Heap} (e : obsY N fn ts tf ex h.get? = He.valX fn ts w) : He.SaysX [] fn ts tf ex w h (frN h.get? N) := by
  have e1 : He.obsT [] fn ts (frN h.get? N) = He.valT fn ts w := congrArg (fun z : He.AlX => z.1) e
  have e2 : (ex (frN h.get? N) && He.tabsB h.get? tf (frN h.get? N)) = true := congrArg (fun z : He.AlX => z.2) e
  obtain ⟨h1, h2⟩ := He.ba e2
  have key : ∀ p ∈ tf, PySem.W.codeHdIn (frN h.get? N) (He.cT (frN h.get? N) p).1 (He.cT (frN h.get? N) p).2 = true ∧ ∃ o, h.get? (He.cT (frN h.get? N) p).2 = some o ∧ He.emptyTab o = true := fun p hp => by
    obtain ⟨h3, h4⟩ := He.ba (List.all_eq_true.mp h2 p hp)
    refine ⟨h3, ?_⟩
    cases q : h.get? (He.cT (frN h.get? N) p).2 with
    | none => rw [q] at h4; cases h4
    | some o => rw [q] at h4; exact ⟨o, rfl, h4⟩
  exact ⟨e1, h1, fun p hp => (key p hp).1, fun p hp => by
    obtain ⟨_, o, q, z⟩ := key p hp
    exact frN_none q z, fun p hp => by
    obtain ⟨_, o, q, z⟩ := key p hp
    rw [q, He.emptyTab_eq z]⟩
variable (N fn ts tf ex)
def hookY : PySem.W.Hook where
  α := He.AlX
  obs := fun s => obsY N fn ts tf ex s.heap.get?
  val := fun w => He.valX fn ts w
  says := fun w h => ∃ K : PySem.W.Frag, K.In h ∧ He.SaysX [] fn ts tf ex w h K
  of := fun _ _ e => ⟨_, frN_in, saysY_of e⟩
  keeps := fun _ _ _ ⟨K, hK, c⟩ k => ⟨K, PySem.W.Frag.In.keeps hK k, ⟨c.t, c.more, c.hd, c.out, fun p hp => k _ _ (c.empty p hp)⟩⟩
theorem obsY_eq {g : Addr → Option Obj} {s : Shared} (h : ∀ a, g a = s.heap.get? a) : obsF N fn ts tf ex g = (hookY N fn ts tf ex).obs s := by
  have e : g = s.heap.get? := funext h
  rw [obsF_eq, e] <;> rfl
end
end Ms

set_option Elab.async false
set_option linter.all false
set_option autoImplicit false
set_option maxRecDepth 100000
set_option maxHeartbeats 400000
namespace Ms
open PySem PySem.Spec L2
open PyProof.Rows hiding St
/-! ## The looks by addresses: the module's names are looked up once -/
def keyA (e : DictEntry) : Option (Str × Option Addr) := match e.key with
  | .str y _ => some (y, match e.val with
    | .ref a => some a
    | _ => none)
  | _ => none
def nmsK (K : PySem.W.Frag) : Option (List (Option (Str × Option Addr))) := match K.lookup mainGlobals with
  | some ⟨_, _, .dict es _, _⟩ => some (es.toList.map keyA)
  | _ => none
def gaN : List (Option (Str × Option Addr)) → Str → Option Addr
  | [], _ => none
  | some (y, v) :: r, x => (match y == x with
    | true => v
    | false => gaN r x)
  | none :: r, x => gaN r x
theorem gaN_find : ∀ (l : List DictEntry) {x : Str} {a : Addr}, gaN (l.map keyA) x = some a → ∃ e, l.find? (·.key.isStr x) = some e ∧ e.val = .ref a
  | [], x, a, h => by cases h
  | e :: r, x, a, h => by
    rw [List.map_cons] at h
    have skip : e.key.isStr x = false → gaN (r.map keyA) x = some a → ∃ e', (e :: r).find? (·.key.isStr x) = some e' ∧ e'.val = .ref a := fun h1 h2 => by
      obtain ⟨e', q1, q2⟩ := gaN_find r h2
      exact ⟨e', by rw [List.find?_cons, h1]; exact q1, q2⟩
    unfold keyA at h
    split at h
    · rename_i y t hk
      simp only [gaN] at h
      cases c : y == x with
      | true =>
        rw [c] at h
        refine ⟨e, ?_, ?_⟩
        · rw [List.find?_cons, hk]
          show (match (y == x) with
            | true => some e
            | false => _) = _
          rw [c]
        · simp only at h
          split at h
          · rename_i b hb
            rw [hb]
            exact congrArg Value.ref (Option.some.inj h)
          · cases h
      | false =>
        rw [c] at h
        exact skip (by rw [hk]; exact c) h
    · rename_i hk
      refine skip ?_ h
      cases e1 : e.key with
      | str s t => exact absurd e1 (hk s t)
      | _ => rfl
theorem ns_of {K : PySem.W.Frag} {NL : List (Option (Str × Option Addr))} {x : Str} {a : Addr} (h : nmsK K = some NL) (e : gaN NL x = some a) : PySem.W.nsIn K mainGlobals x = some (some (.ref a)) := by
  unfold nmsK at h
  unfold PySem.W.nsIn
  split at h
  · rename_i es _ _ hl
    have h := Option.some.inj h
    subst h
    obtain ⟨e', q1, q2⟩ := gaN_find es.toList e
    rw [hl]
    simp only [q1, q2]
  · cases h
theorem ga_of {K : PySem.W.Frag} {NL : List (Option (Str × Option Addr))} {x : Str} {a : Addr} (h : nmsK K = some NL) (e : gaN NL x = some a) : He.ga K x = a := by
  unfold He.ga
  rw [ns_of h e]
def okA (K : PySem.W.Frag) (d : He.DefD) : Option Addr → Bool
  | some a => PySem.W.keepIn K (.ref a) && (match K.lookup a with
    | some ⟨_, _, .func fd, _⟩ => PySem.W.codeIn K fd.code d.qual && (He.dflB K fd.defaults (d.dvs K) && He.kwdB K fd.kwdefaults (d.kws K))
    | _ => false)
  | none => d.ok K
def fnA (K : PySem.W.Frag) (d : He.DefD) : Option Addr → He.FnW
  | some a => (match K.lookup a with
    | some ⟨_, _, .func fd, _⟩ => some (fd.name, fd.qualname, fd.params, fd.body, fd.scope, fd.globals, fd.closure, fd.builtins)
    | _ => none)
  | none => He.fnW K d.at_
def adOf (NL : List (Option (Str × Option Addr))) (d : He.DefD) : Option Addr := match d.at_.2 with
  | none => gaN NL d.at_.1
  | some _ => none
theorem ad_fAd {K : PySem.W.Frag} {NL : List (Option (Str × Option Addr))} (h : nmsK K = some NL) {d : He.DefD} {a : Addr} (e : adOf NL d = some a) : He.fAd K d.at_ = a := by
  unfold adOf at e
  unfold He.fAd
  split at e
  · rename_i h2
    rw [h2]
    exact ga_of h e
  · cases e
theorem okA_eq {K : PySem.W.Frag} {NL : List (Option (Str × Option Addr))} (h : nmsK K = some NL) (d : He.DefD) : okA K d (adOf NL d) = d.ok K := by
  cases e : adOf NL d with
  | none => rfl
  | some a =>
    show (PySem.W.keepIn K (.ref a) && _) = _
    unfold He.DefD.ok
    rw [ad_fAd h e]
    rfl
theorem fnA_eq {K : PySem.W.Frag} {NL : List (Option (Str × Option Addr))} (h : nmsK K = some NL) (d : He.DefD) : fnA K d (adOf NL d) = He.fnW K d.at_ := by
  cases e : adOf NL d with
  | none => rfl
  | some a =>
    unfold fnA He.fnW
    rw [ad_fAd h e]
    rfl
/-! ### straight from the heap -/
def lkG (g : Addr → Option Obj) (n : Nat) (a : Addr) : Option Obj := match Nat.blt a n with
  | true => (match g a with
    | some o => (match He.emptyTab o with
      | true => none
      | false => some o)
    | none => none)
  | false => none
theorem frN_keys {g : Addr → Option Obj} {a : Addr} {o : Obj} : ∀ {n : Nat}, (a, o) ∈ frN g n → Nat.lt a n
  | 0, h => by cases h
  | n + 1, h => by
    unfold frN at h
    rcases List.mem_append.mp h with h | h
    · exact Nat.lt_succ_of_lt (frN_keys h)
    · split at h
      · split at h
        · cases h
        · rw [List.mem_singleton] at h
          cases h
          exact Nat.lt_succ_self _
      · cases h
theorem frN_no {g : Addr → Option Obj} {n : Nat} {a : Addr} (h : ¬ Nat.lt a n) : (frN g n).lookup a = none := by
  cases e : (frN g n).lookup a with
  | none => rfl
  | some o => exact absurd (frN_keys (He.lookup_mem e)) h
theorem lk_frN {g : Addr → Option Obj} {a : Addr} : ∀ {n : Nat}, (frN g n).lookup a = lkG g n a
  | 0 => rfl
  | n + 1 => by
    unfold frN
    rw [List.lookup_append]
    by_cases hlt : Nat.lt a n
    · have e1 : Nat.blt a (n + 1) = true := Nat.ble_eq.mpr (Nat.le_succ_of_le hlt)
      have e2 : Nat.blt a n = true := Nat.ble_eq.mpr hlt
      have ih := lk_frN (g := g) (a := a) (n := n)
      have hne : (a == n) = false := beq_false_of_ne fun e => Nat.lt_irrefl n (show Nat.lt n n from e ▸ hlt)
      rw [ih]
      unfold lkG
      rw [e1, e2]
      cases g n with
      | none => simp only [List.lookup, Option.or_none]
      | some o =>
        simp only
        cases He.emptyTab o with
        | true => simp only [List.lookup, Option.or_none]
        | false => simp only [List.lookup, hne, Option.or_none]
    · rw [frN_no hlt, Option.none_or]
      by_cases hn : a = n
      · subst hn
        have e1 : Nat.blt a (a + 1) = true := Nat.ble_eq.mpr (Nat.le_refl _)
        unfold lkG
        rw [e1]
        cases q : g a with
        | none => rfl
        | some o =>
          simp only
          cases He.emptyTab o with
          | false => simp [List.lookup]
          | true => rfl
      · have e1 : Nat.blt a (n + 1) = false := by
          cases c : Nat.blt a (n + 1) with
          | false => rfl
          | true => exact absurd (Nat.lt_of_le_of_ne (Nat.le_of_succ_le_succ (Nat.ble_eq.mp c)) hn) hlt
        have hne : (a == n) = false := beq_false_of_ne hn
        unfold lkG
        rw [e1]
        split
        · split
          · rfl
          · simp only [List.lookup, hne]
        · rfl
def codeG (g : Addr → Option Obj) (n : Nat) (cd : Value) (q : Str) : Bool := match cd with
  | .ref c => (match lkG g n c with
    | some ⟨_, _, .fields vs, _⟩ => (match vs.toList with
      | _ :: .str n _ :: _ => n == q
      | _ => false)
    | _ => false)
  | _ => false
def okG (g : Addr → Option Obj) (n : Nat) (K : PySem.W.Frag) (d : He.DefD) : Option Addr → Bool
  | some a => (match lkG g n a with
    | some ⟨_, _, .func fd, _⟩ => codeG g n fd.code d.qual && (He.dflB K fd.defaults (d.dvs K) && He.kwdB K fd.kwdefaults (d.kws K))
    | _ => false)
  | none => d.ok K
def fnG (g : Addr → Option Obj) (n : Nat) (K : PySem.W.Frag) (d : He.DefD) : Option Addr → He.FnW
  | some a => (match lkG g n a with
    | some ⟨_, _, .func fd, _⟩ => some (fd.name, fd.qualname, fd.params, fd.body, fd.scope, fd.globals, fd.closure, fd.builtins)
    | _ => none)
  | none => He.fnW K d.at_
theorem codeG_eq (g : Addr → Option Obj) (n : Nat) (cd : Value) (q : Str) : codeG g n cd q = PySem.W.codeIn (frN g n) cd q := by
  cases cd with
  | ref c =>
    unfold codeG PySem.W.codeIn
    simp only [lk_frN]
    cases lkG g n c with
    | none => rfl
    | some o =>
      obtain ⟨a1, a2, a3, a4⟩ := o
      cases a3 <;> rfl
  | _ => rfl
theorem okG_ok {g : Addr → Option Obj} {n : Nat} {d : He.DefD} {o : Option Addr} (h : okG g n (frN g n) d o = true) : okA (frN g n) d o = true := by
  cases o with
  | none => exact h
  | some a =>
    simp only [okG] at h
    simp only [okA, PySem.W.keepIn, lk_frN]
    cases e : lkG g n a with
    | none => rw [e] at h; cases h
    | some o =>
      obtain ⟨a1, a2, a3, a4⟩ := o
      rw [e] at h
      cases a3 with
      | func fd =>
        simp only at h ⊢
        rw [codeG_eq] at h
        rw [h]
        rfl
      | _ => cases h
theorem fnG_eq (g : Addr → Option Obj) (n : Nat) (d : He.DefD) (o : Option Addr) : fnG g n (frN g n) d o = fnA (frN g n) d o := by
  cases o with
  | none => rfl
  | some a =>
    simp only [fnG, fnA, lk_frN]
def zipA {α β γ : Type} (f : α → β → γ) : List α → List β → List γ
  | a :: l, b :: r => f a b :: zipA f l r
  | _, _ => []
theorem zipA_map {α β γ : Type} (f : α → β → γ) (g : α → β) : ∀ l : List α, zipA f l (l.map g) = l.map fun a => f a (g a)
  | [] => rfl
  | a :: l => by rw [List.map_cons, List.map_cons, zipA, zipA_map f g l]
theorem zipA_congr {α β γ : Type} {f f' : α → β → γ} (h : ∀ a b, f a b = f' a b) : zipA f = zipA f' := by
  rw [show f = f' from funext fun a => funext fun b => h a b]
theorem zipA_all {α β : Type} {f f' : α → β → Bool} (h : ∀ a b, f a b = true → f' a b = true) : ∀ (l : List α) (r : List β), (zipA f l r).all id = true → (zipA f' l r).all id = true
  | [], _, _ => rfl
  | _ :: _, [], _ => rfl
  | a :: l, b :: r, q => by
    simp only [zipA, List.all_cons, Bool.and_eq_true, id] at q ⊢
    exact ⟨h a b q.1, zipA_all h l r q.2⟩
def LD.ex1r (l : LD) (K : PySem.W.Frag) : Bool :=
  ((l.bi.all fun x => (He.Fa.free x).ok K) &&
  ((l.fdn.isEmpty || (l.c0 :: l.cn).all fun x => (He.Fa.cls x).ok K && l.fdn.all fun f => (He.Fa.noat x f.2).ok K) &&
  ((l.mts.all fun p => (He.Fa.cls (l.cnm p.1)).ok K && (He.Fa.meth (l.cnm p.1) p.2.2).ok K) &&
  ((l.mks.all fun p => (He.Fa.glo p.2.2).ok K && (He.Fa.mkr p.2.2).ok K) &&
  ((l.gns.all fun p => match PySem.W.nsIn K mainGlobals p.2 with
    | some (some u) => denB l K (l.G p.1) u
    | _ => false) &&
  ((l.dns.all fun p => (He.Fa.glo p.2.1).ok K && kvsB l K (He.ga K p.2.1) p.2.2) &&
  ((l.tgs.all fun p => tupSB K p.2 (l.G p.1)) &&
  decide ((l.tf.map fun x => (He.cT K (x, none)).2).Nodup))))))))
def LD.gloB (l : LD) (NL : List (Option (Str × Option Addr))) : Bool := l.all.all fun d => match d.at_.2 with
  | none => (gaN NL d.at_.1).isSome
  | some _ => true
theorem LD.ex1_of {l : LD} {K : PySem.W.Frag} {NL : List (Option (Str × Option Addr))} (h : nmsK K = some NL) (g : l.gloB NL = true) (r : l.ex1r K = true) : l.ex1 K = true := by
  unfold LD.ex1
  refine Bool.and_eq_true_iff.mpr ⟨?_, r⟩
  unfold LD.gloB at g
  rw [List.all_eq_true] at g ⊢
  intro d hd
  have := g d hd
  split at this
  · rename_i h2
    rw [h2]
    simp only
    obtain ⟨a, ha⟩ := Option.isSome_iff_exists.mp this
    show He.eqO (PySem.W.nsIn K mainGlobals d.at_.1) (some (some (.ref (He.ga K d.at_.1)))) = true
    rw [ns_of h ha, ga_of h ha]
    simp [He.eqO]
  · rename_i x h2
    rw [h2]
abbrev ZT : Type := ((Option (List (Option (Str × Option Addr))) × Bool × Bool) × (Bool × List He.FnW)) × List (Option (List (Option (Str × Int))))
def obZK (l : LD) (tfs : List He.Defn) (AD : List (Option Addr)) (g : Addr → Option Obj) (K : PySem.W.Frag) : ZT :=
  (((nmsK K, l.ex1r K && He.tabsB g tfs K, l.ex2 K), ((zipA (okA K) l.fns AD).all id, zipA (fnA K) l.fns AD)), l.ts.map fun t => He.dicW K (t.1 K))
theorem obZ_of {l : LD} {tfs : List He.Defn} {AD : List (Option Addr)} {NL : List (Option (Str × Option Addr))} {g : Addr → Option Obj} {K : PySem.W.Frag} {vs : List He.FnW} {ts : List (Option (List (Option (Str × Int))))} (hAD : l.fns.map (adOf NL) = AD) (hg : l.gloB NL = true) (h : obZK l tfs AD g K = (((some NL, true, true), (true, vs)), ts)) :
    obsK l.fns l.ts tfs l.exB g K = (((true, vs), ts), true) := by
  subst hAD
  unfold obZK at h
  simp only [Prod.mk.injEq, Bool.and_eq_true, zipA_map] at h
  obtain ⟨⟨⟨h1, ⟨h2, h3⟩, h4⟩, h5, h6⟩, h7⟩ := h
  have e1 : l.exB K = true := by
    unfold LD.exB
    rw [LD.ex1_of h1 hg h2, h4]; rfl
  have e2 : (l.fns.all fun d => d.ok K) = true := by
    rw [List.all_map] at h5
    rw [← h5]
    congr 1
    funext d
    exact (okA_eq h1 d).symm
  have e3 : (l.fns.map fun d => He.fnW K d.at_) = vs := by
    rw [← h6]
    exact List.map_congr_left fun d _ => (fnA_eq h1 d).symm
  unfold obsK
  rw [e1, h3]
  have e : He.obsT [] l.fns l.ts K = ((([].all fun f : He.Fa => f.ok K) && l.fns.all fun d => d.ok K, l.fns.map fun d => He.fnW K d.at_), l.ts.map fun t => He.dicW K (t.1 K)) := rfl
  rw [e, e2, e3, h7]
  rfl
def obGK (l : LD) (tfs : List He.Defn) (AD : List (Option Addr)) (g : Addr → Option Obj) (n : Nat) (K : PySem.W.Frag) : ZT :=
  (((nmsK K, l.ex1r K && He.tabsB g tfs K, l.ex2 K), ((zipA (okG g n K) l.fns AD).all id, zipA (fnG g n K) l.fns AD)), l.ts.map fun t => He.dicW K (t.1 K))
theorem obG_of {l : LD} {tfs : List He.Defn} {AD : List (Option Addr)} {NL : List (Option (Str × Option Addr))} {g : Addr → Option Obj} {n : Nat} {vs : List He.FnW} {ts : List (Option (List (Option (Str × Int))))} (hAD : l.fns.map (adOf NL) = AD) (hg : l.gloB NL = true) (h : obGK l tfs AD g n (frN g n) = (((some NL, true, true), (true, vs)), ts)) :
    obsK l.fns l.ts tfs l.exB g (frN g n) = (((true, vs), ts), true) := by
  refine obZ_of hAD hg ?_
  unfold obGK at h
  unfold obZK
  simp only [Prod.mk.injEq] at h ⊢
  obtain ⟨⟨h1, h2, h3⟩, h4⟩ := h
  refine ⟨⟨h1, zipA_all (fun _ _ => okG_ok) _ _ h2, ?_⟩, h4⟩
  rw [← h3, zipA_congr fun a b => (fnG_eq g n a b).symm]
end Ms

set_option Elab.async false
set_option linter.all false
set_option autoImplicit false
set_option maxRecDepth 100000
set_option maxHeartbeats 2000000
namespace Ms
/-! ## The defs in the inner language (printed by gen2.py) -/
def F_is_whole : Ss := (.cons (.ret (.and (.isin (.v 0) .int) (.not (.isin (.v 0) .bool))))
 .nil)
def F_is_from : Ss := (.cons (.ret (.and (.call 1 (.cons (.v 0) .nil)) (.chain .le .le (.v 1) (.v 0) (.v 2))))
 .nil)
def F_is_name : Ss := (.cons (.ifs (.or (.not (.isin (.v 0) .str)) (.or (.not (.chain .le .le (.k (.int 1)) (.b1 .len (.v 0)) (.g 6))) (.cmp .notin (.ix (.v 0) (.k (.int 0))) (.g 3)))) (.cons (.ret (.k (.bl false)))
 .nil) .nil)
 (.cons (.ret (.b1 .all (.fl (.lc (.or (.cmp .isin (.v 1) (.g 3)) (.cmp .isin (.v 1) (.g 4))) (.name 1) (.seq (.v 0)) .none [1]))))
 .nil))
def F_is_written : Ss := (.cons (.ret (.and (.isin (.v 0) .str) (.and (.cmp .le (.b1 .len (.v 0)) (.v 1)) (.cmp .eq (.m .strip (.v 0) (.cons (.g 5) .nil)) (.k (.str []))))))
 .nil)
def F_is_lines : Ss := (.cons (.ifs (.or (.not (.isin (.v 0) .tup)) (.cmp .gt (.b1 .len (.v 0)) (.g 8))) (.cons (.ret (.k (.bl false)))
 .nil) .nil)
 (.cons (.ret (.b1 .all (.fl (.lc (.call 5 (.cons (.v 1) (.cons (.g 7) .nil))) (.name 1) (.seq (.v 0)) .none [1]))))
 .nil))
def F_is_trait : Ss := (.cons (.ret (.and (.isin (.v 0) .str) (.cmp .isin (.v 0) (.g 0))))
 .nil)
def F_must_be_trait : Ss := (.cons (.ifs (.not (.call 7 (.cons (.v 0) .nil))) (.cons (.raise_ 16 (.k (.dct [])))
 .nil) .nil)
 .nil)
def F_is_worth : Ss := (.cons (.ex (.call 8 (.cons (.v 0) .nil)))
 (.cons (.ifs (.cmp .isin (.v 0) (.g 2)) (.cons (.ret (.call 2 (.cons (.v 1) (.cons (.ix (.ix (.g 2) (.v 0)) (.k (.int 0))) (.cons (.ix (.ix (.g 2) (.v 0)) (.k (.int 1))) .nil)))))
 .nil) .nil)
 (.cons (.ret (.call 3 (.cons (.v 1) .nil)))
 .nil)))
def F_own_worth : Ss := (.cons (.ret (.ix (.g 1) (.m .index (.g 0) (.cons (.v 0) .nil))))
 .nil)
def F_is_setting : Ss := (.cons (.ret (.and (.isin (.v 0) .tup) (.and (.cmp .eq (.b1 .len (.v 0)) (.k (.int 2))) (.and (.call 7 (.cons (.ix (.v 0) (.k (.int 0))) .nil)) (.call 9 (.cons (.ix (.v 0) (.k (.int 0))) (.cons (.ix (.v 0) (.k (.int 1))) .nil)))))))
 .nil)
def F_rise : Ss := (.cons (.ret (.b1 .all (.fl (.lc (.cmp .lt (.ix (.v 0) (.v 1)) (.ix (.v 0) (.bin .add (.v 1) (.k (.int 1))))) (.name 1) (.rng1 (.bin .sub (.b1 .len (.v 0)) (.k (.int 1)))) .none [1]))))
 .nil)
def F_are_settings : Ss := (.cons (.ifs (.or (.not (.isin (.v 0) .tup)) (.not (.b1 .all (.fl (.lc (.call 11 (.cons (.v 1) .nil)) (.name 1) (.seq (.v 0)) .none [1]))))) (.cons (.ret (.k (.bl false)))
 .nil) .nil)
 (.cons (.ret (.call 12 (.cons (.fl (.lc (.m .index (.g 0) (.cons (.ix (.v 1) (.k (.int 0))) .nil)) (.name 1) (.seq (.v 0)) .none [1])) .nil)))
 .nil))
def F_is_place : Ss := (.cons (.ifs (.or (.not (.isin (.v 0) .tup)) (.or (.cmp .ne (.b1 .len (.v 0)) (.k (.int 3))) (.or (.not (.call 3 (.cons (.ix (.v 0) (.k (.int 0))) .nil))) (.not (.call 13 (.cons (.ix (.v 0) (.k (.int 1))) .nil)))))) (.cons (.ret (.k (.bl false)))
 .nil) .nil)
 (.cons (.ret (.or (.isN (.ix (.v 0) (.k (.int 2)))) (.call 6 (.cons (.ix (.v 0) (.k (.int 2))) .nil))))
 .nil))
def F_are_unlike : Ss := (.cons (.ret (.b1 .all (.fl (.lc (.cmp .notin (.ix (.v 0) (.v 1)) (.fl (.slc (.v 0) .none (.some (.v 1))))) (.name 1) (.rng1 (.b1 .len (.v 0))) .none [1]))))
 .nil)
def F_is_master : Ss := (.cons (.ifs (.or (.not (.isin (.v 0) .tup)) (.or (.cmp .ne (.b1 .len (.v 0)) (.k (.int 3))) (.not (.call 3 (.cons (.ix (.v 0) (.k (.int 0))) .nil))))) (.cons (.ret (.k (.bl false)))
 .nil) .nil)
 (.cons (.unp [1, 2, 3] (.v 0))
 (.cons (.ifs (.and (.notN (.v 2)) (.not (.call 3 (.cons (.v 2) .nil)))) (.cons (.ret (.k (.bl false)))
 .nil) .nil)
 (.cons (.ifs (.or (.not (.isin (.v 3) .tup)) (.or (.cmp .gt (.b1 .len (.v 3)) (.g 10)) (.not (.b1 .all (.fl (.lc (.call 14 (.cons (.v 4) .nil)) (.name 4) (.seq (.v 3)) .none [4])))))) (.cons (.ret (.k (.bl false)))
 .nil) .nil)
 (.cons (.ret (.call 15 (.cons (.fl (.lc (.ix (.v 4) (.k (.int 0))) (.name 4) (.seq (.v 3)) .none [4])) .nil)))
 .nil)))))
def F_master_by : Ss := (.cons (.for_ (.name 2) (.seq (.v 0)) (.cons (.ifs (.cmp .eq (.ix (.v 2) (.k (.int 0))) (.v 1)) (.cons (.ret (.v 2))
 .nil) .nil)
 .nil))
 (.cons (.ret (.k .non))
 .nil))
def F_comes_round : Ss := (.cons (.own 2 (.lst .nil))
 (.cons (.while_ (.notN (.v 1)) (.cons (.ifs (.inO false (.v 1) 2) (.cons (.ret (.k (.bl true)))
 .nil) .nil)
 (.cons (.app 2 (.v 1))
 (.cons (.set 1 (.ix (.call 17 (.cons (.v 0) (.cons (.v 1) .nil))) (.k (.int 1))))
 .nil))))
 (.cons (.ret (.k (.bl false)))
 .nil)))
def F_must_be_master : Ss := (.cons (.ifs (.or (.not (.isin (.v 1) .str)) (.isN (.call 17 (.cons (.v 0) (.cons (.v 1) .nil))))) (.cons (.raise_ 3 (.k (.dct [])))
 .nil) .nil)
 .nil)
def F_chain_by : Ss := (.cons (.own 2 (.lst .nil))
 (.cons (.while_ (.notN (.v 1)) (.cons (.set 3 (.call 17 (.cons (.v 0) (.cons (.v 1) .nil))))
 (.cons (.app 2 (.v 3))
 (.cons (.set 1 (.ix (.v 3) (.k (.int 1))))
 .nil))))
 (.frz 2 (.cons (.ret (.v 2))
 .nil))))
def F_places_by : Ss := (.cons (.own 2 (.lst .nil))
 (.cons (.for_ (.name 3) (.rev (.call 21 (.cons (.v 0) (.cons (.v 1) .nil)))) (.cons (.ext 2 (.fl (.lc (.ix (.v 4) (.k (.int 0))) (.name 4) (.seq (.ix (.v 3) (.k (.int 2)))) (.some (.inO true (.ix (.v 4) (.k (.int 0))) 2)) [4])))
 .nil))
 (.frz 2 (.cons (.ret (.v 2))
 .nil))))
def F_must_be_place : Ss := (.cons (.ifs (.or (.not (.isin (.v 2) .str)) (.cmp .notin (.v 2) (.call 23 (.cons (.v 0) (.cons (.v 1) .nil))))) (.cons (.raise_ 6 (.k (.dct [])))
 .nil) .nil)
 .nil)
def F_settings_by : Ss := (.cons (.for_ (.name 4) (.seq (.call 21 (.cons (.v 0) (.cons (.v 1) .nil)))) (.cons (.for_ (.tup [5, 6, 7]) (.seq (.ix (.v 4) (.k (.int 2)))) (.cons (.for_ (.tup [8, 9]) (.seq (.v 6)) (.cons (.ifs (.and (.cmp .eq (.v 5) (.v 2)) (.cmp .eq (.v 8) (.v 3))) (.cons (.ret (.tup (.cons (.v 9) (.cons (.ix (.v 4) (.k (.int 0))) .nil))))
 .nil) .nil)
 .nil))
 .nil))
 .nil))
 (.cons (.ret (.k .non))
 .nil))
def F_worth_here : Ss := (.cons (.set 4 (.call 26 (.cons (.v 0) (.cons (.v 1) (.cons (.v 2) (.cons (.v 3) .nil))))))
 (.cons (.ifs (.isN (.v 4)) (.cons (.ret (.tup (.cons (.call 10 (.cons (.v 3) .nil)) (.cons (.tup (.cons (.k (.str [111, 119, 110])) .nil)) .nil))))
 .nil) .nil)
 (.cons (.ret (.tup (.cons (.ix (.v 4) (.k (.int 0))) (.cons (.tup (.cons (.k (.str [109, 97, 115, 116, 101, 114])) (.cons (.ix (.v 4) (.k (.int 1))) .nil))) .nil))))
 .nil)))
def F_is_hand : Ss := (.cons (.ifs (.or (.not (.isin (.v 0) .tup)) (.or (.cmp .ne (.b1 .len (.v 0)) (.k (.int 3))) (.or (.not (.call 3 (.cons (.ix (.v 0) (.k (.int 0))) .nil))) (.not (.call 7 (.cons (.ix (.v 0) (.k (.int 1))) .nil)))))) (.cons (.ret (.k (.bl false)))
 .nil) .nil)
 (.cons (.ret (.call 9 (.cons (.ix (.v 0) (.k (.int 1))) (.cons (.ix (.v 0) (.k (.int 2))) .nil))))
 .nil))
def F_are_hands : Ss := (.cons (.ifs (.or (.not (.isin (.v 0) .tup)) (.or (.cmp .gt (.b1 .len (.v 0)) (.g 12)) (.not (.b1 .all (.fl (.lc (.call 31 (.cons (.v 1) .nil)) (.name 1) (.seq (.v 0)) .none [1])))))) (.cons (.ret (.k (.bl false)))
 .nil) .nil)
 (.cons (.ret (.call 12 (.cons (.fl (.lc (.tup (.cons (.ix (.v 1) (.k (.int 0))) (.cons (.m .index (.g 0) (.cons (.ix (.v 1) (.k (.int 1))) .nil)) .nil))) (.name 1) (.seq (.v 0)) .none [1])) .nil)))
 .nil))
def F_is_fill : Ss := (.cons (.ret (.and (.isin (.v 0) .tup) (.and (.cmp .eq (.b1 .len (.v 0)) (.k (.int 2))) (.and (.call 3 (.cons (.ix (.v 0) (.k (.int 0))) .nil)) (.call 6 (.cons (.ix (.v 0) (.k (.int 1))) .nil))))))
 .nil)
def F_are_fills : Ss := (.cons (.ifs (.or (.not (.isin (.v 0) .tup)) (.or (.cmp .gt (.b1 .len (.v 0)) (.g 13)) (.not (.b1 .all (.fl (.lc (.call 33 (.cons (.v 1) .nil)) (.name 1) (.seq (.v 0)) .none [1])))))) (.cons (.ret (.k (.bl false)))
 .nil) .nil)
 (.cons (.ret (.call 12 (.cons (.fl (.lc (.ix (.v 1) (.k (.int 0))) (.name 1) (.seq (.v 0)) .none [1])) .nil)))
 .nil))
def F_is_step : Ss := (.cons (.ifs (.or (.not (.isin (.v 0) .tup)) (.or (.cmp .ne (.b1 .len (.v 0)) (.k (.int 5))) (.not (.call 3 (.cons (.ix (.v 0) (.k (.int 3))) .nil))))) (.cons (.ret (.k (.bl false)))
 .nil) .nil)
 (.cons (.unp [1, 2, 3, 4, 5] (.v 0))
 (.cons (.ifs (.or (.not (.isin (.v 1) .str)) (.or (.cmp .notin (.v 1) (.g 16)) (.or (.not (.isin (.v 3) .str)) (.cmp .notin (.v 3) (.g 17))))) (.cons (.ret (.k (.bl false)))
 .nil) .nil)
 (.cons (.ret (.and (.call 2 (.cons (.v 2) (.cons (.k (.int 0)) (.cons (.k (.int 99)) .nil)))) (.or (.isN (.v 5)) (.call 2 (.cons (.v 5) (.cons (.k (.int 0)) (.cons (.k (.int 11)) .nil)))))))
 .nil))))
def F_are_steps : Ss := (.cons (.ret (.and (.isin (.v 0) .tup) (.and (.cmp .le (.b1 .len (.v 0)) (.g 14)) (.b1 .all (.fl (.lc (.call 35 (.cons (.v 1) .nil)) (.name 1) (.seq (.v 0)) .none [1]))))))
 .nil)
def F_is_target : Ss := (.cons (.ifs (.or (.not (.isin (.v 0) .tup)) (.or (.cmp .notin (.b1 .len (.v 0)) (.tup (.cons (.k (.int 1)) (.cons (.k (.int 2)) .nil)))) (.not (.isin (.ix (.v 0) (.k (.int 0))) .str)))) (.cons (.ret (.k (.bl false)))
 .nil) .nil)
 (.cons (.ifs (.cmp .eq (.b1 .len (.v 0)) (.k (.int 2))) (.cons (.ret (.and (.cmp .eq (.ix (.v 0) (.k (.int 0))) (.k (.str [115, 108, 105, 100, 101]))) (.call 3 (.cons (.ix (.v 0) (.k (.int 1))) .nil))))
 .nil) .nil)
 (.cons (.ret (.cmp .isin (.ix (.v 0) (.k (.int 0))) (.tup (.cons (.k (.str [102, 105, 114, 115, 116])) (.cons (.k (.str [108, 97, 115, 116])) (.cons (.k (.str [114, 101, 116, 117, 114, 110])) .nil))))))
 .nil)))
def F_is_link : Ss := (.cons (.ret (.and (.isin (.v 0) .tup) (.and (.cmp .eq (.b1 .len (.v 0)) (.k (.int 2))) (.and (.call 3 (.cons (.ix (.v 0) (.k (.int 0))) .nil)) (.call 37 (.cons (.ix (.v 0) (.k (.int 1))) .nil))))))
 .nil)
def F_are_links : Ss := (.cons (.ifs (.or (.not (.isin (.v 0) .tup)) (.or (.cmp .gt (.b1 .len (.v 0)) (.g 13)) (.not (.b1 .all (.fl (.lc (.call 38 (.cons (.v 1) .nil)) (.name 1) (.seq (.v 0)) .none [1])))))) (.cons (.ret (.k (.bl false)))
 .nil) .nil)
 (.cons (.ret (.call 12 (.cons (.fl (.lc (.ix (.v 1) (.k (.int 0))) (.name 1) (.seq (.v 0)) .none [1])) .nil)))
 .nil))
def F_is_slide : Ss := (.cons (.ifs (.or (.not (.isin (.v 0) .tup)) (.or (.cmp .ne (.b1 .len (.v 0)) (.k (.int 8))) (.or (.not (.call 3 (.cons (.ix (.v 0) (.k (.int 0))) .nil))) (.not (.call 3 (.cons (.ix (.v 0) (.k (.int 1))) .nil)))))) (.cons (.ret (.k (.bl false)))
 .nil) .nil)
 (.cons (.unp [1, 2, 3, 4, 5, 6, 7, 8] (.v 0))
 (.cons (.ifs (.or (.not (.call 32 (.cons (.v 3) .nil))) (.or (.not (.call 34 (.cons (.v 4) .nil))) (.or (.not (.call 36 (.cons (.v 5) .nil))) (.not (.call 39 (.cons (.v 6) .nil)))))) (.cons (.ret (.k (.bl false)))
 .nil) .nil)
 (.cons (.ret (.and (.call 1 (.cons (.v 7) .nil)) (.and (.cmp .isin (.v 7) (.tup (.cons (.k (.int 0)) (.cons (.k (.int 1)) .nil)))) (.call 5 (.cons (.v 8) (.cons (.g 15) .nil))))))
 .nil))))
def F_leads_astray : Ss := (.cons (.ret (.b1 .any (.fl (.lc (.and (.cmp .eq (.ix (.v 3) (.k (.int 0))) (.k (.str [115, 108, 105, 100, 101]))) (.cmp .notin (.ix (.v 3) (.k (.int 1))) (.v 1))) (.tup [2, 3]) (.seq (.ix (.v 0) (.k (.int 5)))) .none [2, 3]))))
 .nil)
def F_fault_of_masters : Ss := (.cons (.set 1 (.fw (.v 0) [0] 2 (.not (.call 16 (.cons (.ix (.v 1) (.v 0)) .nil)))))
 (.cons (.ifs (.notN (.v 1)) (.cons (.ret (.tup (.cons (.k (.str [109, 97, 115, 116, 101, 114])) (.cons (.v 1) .nil))))
 .nil) .nil)
 (.cons (.own 2 (.lc (.ix (.v 3) (.k (.int 0))) (.name 3) (.seq (.v 0)) .none [3]))
 (.frz 2 (.cons (.set 1 (.fw (.v 0) [2] 2 (.cmp .isin (.ix (.v 1) (.v 0)) (.fl (.slc (.v 1) .none (.some (.v 0)))))))
 (.cons (.ifs (.notN (.v 1)) (.cons (.ret (.tup (.cons (.k (.str [97, 108, 105, 107, 101])) (.cons (.v 1) .nil))))
 .nil) .nil)
 (.cons (.set 1 (.fw (.v 0) [2, 0] 3 (.and (.notN (.ix (.ix (.v 2) (.v 0)) (.k (.int 1)))) (.cmp .notin (.ix (.ix (.v 2) (.v 0)) (.k (.int 1))) (.v 1)))))
 (.cons (.ifs (.notN (.v 1)) (.cons (.ret (.tup (.cons (.k (.str [111, 118, 101, 114])) (.cons (.v 1) .nil))))
 .nil) .nil)
 (.cons (.set 1 (.fw (.v 0) [0, 2] 3 (.call 18 (.cons (.v 1) (.cons (.ix (.v 2) (.v 0)) .nil)))))
 (.cons (.ifs (.notN (.v 1)) (.cons (.ret (.tup (.cons (.k (.str [114, 105, 110, 103])) (.cons (.v 1) .nil))))
 .nil) .nil)
 (.cons (.ret (.k .non))
 .nil)))))))))))
def F_fault_of_slides : Ss := (.cons (.set 2 (.fw (.v 1) [1] 2 (.not (.call 40 (.cons (.ix (.v 1) (.v 0)) .nil)))))
 (.cons (.ifs (.notN (.v 2)) (.cons (.ret (.tup (.cons (.k (.str [115, 108, 105, 100, 101])) (.cons (.v 2) .nil))))
 .nil) .nil)
 (.cons (.own 3 (.lc (.ix (.v 4) (.k (.int 0))) (.name 4) (.seq (.v 1)) .none [4]))
 (.frz 3 (.cons (.set 2 (.fw (.v 1) [3] 2 (.cmp .isin (.ix (.v 1) (.v 0)) (.fl (.slc (.v 1) .none (.some (.v 0)))))))
 (.cons (.ifs (.notN (.v 2)) (.cons (.ret (.tup (.cons (.k (.str [115, 97, 109, 101])) (.cons (.v 2) .nil))))
 .nil) .nil)
 (.cons (.own 5 (.lc (.ix (.v 6) (.k (.int 0))) (.name 6) (.seq (.v 0)) .none [6]))
 (.frz 5 (.cons (.set 2 (.fw (.v 1) [5, 1] 3 (.cmp .notin (.ix (.ix (.v 2) (.v 0)) (.k (.int 1))) (.v 1))))
 (.cons (.ifs (.notN (.v 2)) (.cons (.ret (.tup (.cons (.k (.str [117, 110, 100, 101, 114])) (.cons (.v 2) .nil))))
 .nil) .nil)
 (.cons (.set 2 (.fw (.v 1) [3, 1] 3 (.call 42 (.cons (.ix (.v 2) (.v 0)) (.cons (.v 1) .nil)))))
 (.cons (.ifs (.notN (.v 2)) (.cons (.ret (.tup (.cons (.k (.str [108, 105, 110, 107])) (.cons (.v 2) .nil))))
 .nil) .nil)
 (.cons (.ret (.k .non))
 .nil)))))))))))))
def F_fault_of : Ss := (.cons (.ifs (.or (.not (.isin (.v 0) .tup)) (.cmp .ne (.b1 .len (.v 0)) (.k (.int 2)))) (.cons (.ret (.tup (.cons (.k (.str [100, 101, 99, 107])) .nil)))
 .nil) .nil)
 (.cons (.unp [1, 2] (.v 0))
 (.cons (.ifs (.or (.not (.isin (.v 1) .tup)) (.or (.not (.isin (.v 2) .tup)) (.not (.chain .le .le (.k (.int 1)) (.b1 .len (.v 1)) (.g 24))))) (.cons (.ret (.tup (.cons (.k (.str [100, 101, 99, 107])) .nil)))
 .nil) .nil)
 (.cons (.ifs (.cmp .gt (.b1 .len (.v 2)) (.g 11)) (.cons (.ret (.tup (.cons (.k (.str [100, 101, 99, 107])) .nil)))
 .nil) .nil)
 (.cons (.ret (.or (.call 43 (.cons (.v 1) .nil)) (.call 44 (.cons (.v 1) (.cons (.v 2) .nil)))))
 .nil)))))
def F_must_be_deck : Ss := (.cons (.ifs (.notN (.call 45 (.cons (.v 0) .nil))) (.cons (.raise_ 0 (.k (.dct [])))
 .nil) .nil)
 .nil)
def F_place_of_slide : Ss := (.cons (.ret (.fw (.v 0) [1, 0] 3 (.cmp .eq (.ix (.ix (.v 2) (.v 0)) (.k (.int 0))) (.v 1))))
 .nil)
def F_slide_by : Ss := (.cons (.set 2 (.k .non))
 (.cons (.ifs (.isin (.v 1) .str) (.cons (.set 2 (.call 47 (.cons (.ix (.v 0) (.k (.int 1))) (.cons (.v 1) .nil))))
 .nil) .nil)
 (.cons (.ifs (.isN (.v 2)) (.cons (.raise_ 12 (.k (.dct [])))
 .nil) .nil)
 (.cons (.ret (.ix (.ix (.v 0) (.k (.int 1))) (.v 2)))
 .nil))))
def F_with_master : Ss := (.cons (.ret (.tup (.cons (.b1 .tuple (.fl (.lc (.ite (.cmp .eq (.ix (.v 2) (.k (.int 0))) (.ix (.v 1) (.k (.int 0)))) (.v 1) (.v 2)) (.name 2) (.seq (.ix (.v 0) (.k (.int 0)))) .none [2]))) (.cons (.ix (.v 0) (.k (.int 1))) .nil))))
 .nil)
def F_with_slide : Ss := (.cons (.ret (.tup (.cons (.ix (.v 0) (.k (.int 0))) (.cons (.b1 .tuple (.fl (.lc (.ite (.cmp .eq (.ix (.v 2) (.k (.int 0))) (.ix (.v 1) (.k (.int 0)))) (.v 1) (.v 2)) (.name 2) (.seq (.ix (.v 0) (.k (.int 1)))) .none [2]))) .nil))))
 .nil)
def F_own_place : Ss := (.cons (.for_ (.name 2) (.seq (.ix (.v 0) (.k (.int 2)))) (.cons (.ifs (.cmp .eq (.ix (.v 2) (.k (.int 0))) (.v 1)) (.cons (.ret (.v 2))
 .nil) .nil)
 .nil))
 (.cons (.ret (.k .non))
 .nil))
def F_put_own : Ss := (.cons (.set 2 (.ix (.v 0) (.k (.int 2))))
 (.cons (.ifs (.isN (.call 51 (.cons (.v 0) (.cons (.ix (.v 1) (.k (.int 0))) .nil)))) (.cons (.ret (.bin .add (.sl (.v 0) .none (.some (.k (.int 2)))) (.tup (.cons (.bin .add (.v 2) (.tup (.cons (.v 1) .nil))) .nil))))
 .nil) .nil)
 (.cons (.ret (.bin .add (.sl (.v 0) .none (.some (.k (.int 2)))) (.tup (.cons (.b1 .tuple (.fl (.lc (.ite (.cmp .eq (.ix (.v 3) (.k (.int 0))) (.ix (.v 1) (.k (.int 0)))) (.v 1) (.v 3)) (.name 3) (.seq (.v 2)) .none [3]))) .nil))))
 .nil)))
def F_with_setting : Ss := (.cons (.own 3 (.lc (.v 4) (.name 4) (.seq (.v 0)) (.some (.cmp .ne (.ix (.v 4) (.k (.int 0))) (.v 1))) [4]))
 (.cons (.ifs (.notN (.v 2)) (.cons (.app 3 (.tup (.cons (.v 1) (.cons (.v 2) .nil))))
 .nil) .nil)
 (.frz 3 (.cons (.ret (.b1 .tuple .bad))
 .nil))))
def F_must_have_room : Ss := (.cons (.ifs (.and (.isN (.call 51 (.cons (.v 0) (.cons (.v 1) .nil)))) (.cmp .eq (.b1 .len (.ix (.v 0) (.k (.int 2)))) (.g 10))) (.cons (.raise_ 21 (.k (.dct [])))
 .nil) .nil)
 .nil)
def F_looked_up : Ss := (.cons (.ex (.call 46 (.cons (.v 0) .nil)))
 (.cons (.ex (.call 20 (.cons (.ix (.v 0) (.k (.int 0))) (.cons (.v 1) .nil))))
 (.cons (.ex (.call 25 (.cons (.ix (.v 0) (.k (.int 0))) (.cons (.v 1) (.cons (.v 2) .nil)))))
 (.cons (.ret (.call 17 (.cons (.ix (.v 0) (.k (.int 0))) (.cons (.v 1) .nil))))
 .nil))))
def F_looked_own : Ss := (.cons (.ex (.call 46 (.cons (.v 0) .nil)))
 (.cons (.ex (.call 20 (.cons (.ix (.v 0) (.k (.int 0))) (.cons (.v 1) .nil))))
 (.cons (.set 3 (.call 17 (.cons (.ix (.v 0) (.k (.int 0))) (.cons (.v 1) .nil))))
 (.cons (.set 4 (.k .non))
 (.cons (.ifs (.isin (.v 2) .str) (.cons (.set 4 (.call 51 (.cons (.v 3) (.cons (.v 2) .nil))))
 .nil) .nil)
 (.cons (.ifs (.isN (.v 4)) (.cons (.raise_ 6 (.k (.dct [])))
 .nil) .nil)
 (.cons (.ret (.tup (.cons (.v 3) (.cons (.v 4) .nil))))
 .nil)))))))
def F_set_trait : Ss := (.cons (.set 5 (.call 55 (.cons (.v 0) (.cons (.v 1) (.cons (.v 2) .nil)))))
 (.cons (.ex (.call 54 (.cons (.v 5) (.cons (.v 2) .nil))))
 (.cons (.ex (.call 8 (.cons (.v 3) .nil)))
 (.cons (.ifs (.not (.call 9 (.cons (.v 3) (.cons (.v 4) .nil)))) (.cons (.raise_ 18 (.k (.dct [])))
 .nil) .nil)
 (.cons (.set 6 (.or (.call 51 (.cons (.v 5) (.cons (.v 2) .nil))) (.tup (.cons (.v 2) (.cons (.tup .nil) (.cons (.k .non) .nil))))))
 (.cons (.ret (.call 49 (.cons (.v 0) (.cons (.call 52 (.cons (.v 5) (.cons (.tup (.cons (.v 2) (.cons (.call 53 (.cons (.ix (.v 6) (.k (.int 1))) (.cons (.v 3) (.cons (.v 4) .nil)))) (.cons (.ix (.v 6) (.k (.int 2))) .nil)))) .nil))) .nil))))
 .nil))))))
def F_unset_trait : Ss := (.cons (.unp [4, 5] (.call 56 (.cons (.v 0) (.cons (.v 1) (.cons (.v 2) .nil)))))
 (.cons (.ex (.call 8 (.cons (.v 3) .nil)))
 (.cons (.ifs (.cmp .notin (.v 3) (.fl (.lc (.ix (.v 6) (.k (.int 0))) (.name 6) (.seq (.ix (.v 5) (.k (.int 1)))) .none [6]))) (.cons (.raise_ 10 (.k (.dct [])))
 .nil) .nil)
 (.cons (.ret (.call 49 (.cons (.v 0) (.cons (.call 52 (.cons (.v 4) (.cons (.tup (.cons (.v 2) (.cons (.call 53 (.cons (.ix (.v 5) (.k (.int 1))) (.cons (.v 3) (.cons (.k .non) .nil)))) (.cons (.ix (.v 5) (.k (.int 2))) .nil)))) .nil))) .nil))))
 .nil))))
def F_put_place : Ss := (.cons (.ex (.call 46 (.cons (.v 0) .nil)))
 (.cons (.ex (.call 20 (.cons (.ix (.v 0) (.k (.int 0))) (.cons (.v 1) .nil))))
 (.cons (.ifs (.not (.call 3 (.cons (.v 2) .nil))) (.cons (.raise_ 6 (.k (.dct [])))
 .nil) .nil)
 (.cons (.ifs (.cmp .isin (.v 2) (.call 23 (.cons (.ix (.v 0) (.k (.int 0))) (.cons (.v 1) .nil)))) (.cons (.raise_ 20 (.k (.dct [])))
 .nil) .nil)
 (.cons (.set 3 (.call 17 (.cons (.ix (.v 0) (.k (.int 0))) (.cons (.v 1) .nil))))
 (.cons (.ex (.call 54 (.cons (.v 3) (.cons (.v 2) .nil))))
 (.cons (.ret (.call 49 (.cons (.v 0) (.cons (.call 52 (.cons (.v 3) (.cons (.tup (.cons (.v 2) (.cons (.tup .nil) (.cons (.k .non) .nil)))) .nil))) .nil))))
 .nil)))))))
def F_take_place : Ss := (.cons (.unp [3, 4] (.call 56 (.cons (.v 0) (.cons (.v 1) (.cons (.v 2) .nil)))))
 (.cons (.ret (.call 49 (.cons (.v 0) (.cons (.bin .add (.sl (.v 3) .none (.some (.k (.int 2)))) (.tup (.cons (.b1 .tuple (.fl (.lc (.v 5) (.name 5) (.seq (.ix (.v 3) (.k (.int 2)))) (.some (.cmp .ne (.ix (.v 5) (.k (.int 0))) (.v 2))) [5]))) .nil))) .nil))))
 .nil))
def F_set_text : Ss := (.cons (.set 4 (.call 55 (.cons (.v 0) (.cons (.v 1) (.cons (.v 2) .nil)))))
 (.cons (.ex (.call 54 (.cons (.v 4) (.cons (.v 2) .nil))))
 (.cons (.ifs (.and (.notN (.v 3)) (.not (.call 6 (.cons (.v 3) .nil)))) (.cons (.raise_ 18 (.k (.dct [])))
 .nil) .nil)
 (.cons (.set 5 (.or (.call 51 (.cons (.v 4) (.cons (.v 2) .nil))) (.tup (.cons (.v 2) (.cons (.tup .nil) (.cons (.k .non) .nil))))))
 (.cons (.ret (.call 49 (.cons (.v 0) (.cons (.call 52 (.cons (.v 4) (.cons (.tup (.cons (.v 2) (.cons (.ix (.v 5) (.k (.int 1))) (.cons (.v 3) .nil)))) .nil))) .nil))))
 .nil)))))
def F_lay_under : Ss := (.cons (.ex (.call 46 (.cons (.v 0) .nil)))
 (.cons (.ex (.call 20 (.cons (.ix (.v 0) (.k (.int 0))) (.cons (.v 1) .nil))))
 (.cons (.ifs (.notN (.v 2)) (.cons (.ex (.call 20 (.cons (.ix (.v 0) (.k (.int 0))) (.cons (.v 2) .nil))))
 .nil) .nil)
 (.cons (.set 3 (.call 17 (.cons (.ix (.v 0) (.k (.int 0))) (.cons (.v 1) .nil))))
 (.cons (.set 4 (.call 49 (.cons (.v 0) (.cons (.tup (.cons (.v 1) (.cons (.v 2) (.cons (.ix (.v 3) (.k (.int 2))) .nil)))) .nil))))
 (.cons (.ifs (.call 18 (.cons (.ix (.v 4) (.k (.int 0))) (.cons (.v 1) .nil))) (.cons (.raise_ 19 (.k (.dct [])))
 .nil) .nil)
 (.cons (.ret (.v 4))
 .nil)))))))
def F_sorted_hands : Ss := (.cons (.ret (.b1 .tuple .bad))
 .nil)
def F_by_hand : Ss := (.cons (.ex (.call 46 (.cons (.v 0) .nil)))
 (.cons (.set 5 (.call 48 (.cons (.v 0) (.cons (.v 1) .nil))))
 (.cons (.ex (.call 25 (.cons (.ix (.v 0) (.k (.int 0))) (.cons (.ix (.v 5) (.k (.int 1))) (.cons (.v 2) .nil)))))
 (.cons (.ex (.call 8 (.cons (.v 3) .nil)))
 (.cons (.ifs (.not (.call 9 (.cons (.v 3) (.cons (.v 4) .nil)))) (.cons (.raise_ 18 (.k (.dct [])))
 .nil) .nil)
 (.cons (.set 6 (.fl (.cat (.fl (.lc (.v 7) (.name 7) (.seq (.ix (.v 5) (.k (.int 2)))) (.some (.cmp .ne (.sl (.v 7) .none (.some (.k (.int 2)))) (.tup (.cons (.v 2) (.cons (.v 3) .nil))))) [7])) (.fl (.lst (.cons (.tup (.cons (.v 2) (.cons (.v 3) (.cons (.v 4) .nil)))) .nil))))))
 (.cons (.ifs (.cmp .gt (.b1 .len (.v 6)) (.g 12)) (.cons (.raise_ 21 (.k (.dct [])))
 .nil) .nil)
 (.cons (.ret (.call 50 (.cons (.v 0) (.cons (.bin .add (.bin .add (.sl (.v 5) .none (.some (.k (.int 2)))) (.tup (.cons (.call 63 (.cons (.v 6) .nil)) .nil))) (.sl (.v 5) (.some (.k (.int 3))) .none)) .nil))))
 .nil))))))))
def F_let_go : Ss := (.cons (.ex (.call 46 (.cons (.v 0) .nil)))
 (.cons (.set 4 (.call 48 (.cons (.v 0) (.cons (.v 1) .nil))))
 (.cons (.ex (.call 8 (.cons (.v 3) .nil)))
 (.cons (.own 5 (.lc (.v 6) (.name 6) (.seq (.ix (.v 4) (.k (.int 2)))) (.some (.or (.cmp .ne (.ix (.v 6) (.k (.int 0))) (.v 2)) (.cmp .ne (.ix (.v 6) (.k (.int 1))) (.v 3)))) [6]))
 (.frz 5 (.cons (.ifs (.cmp .eq (.b1 .len (.v 5)) (.b1 .len (.ix (.v 4) (.k (.int 2))))) (.cons (.raise_ 10 (.k (.dct [])))
 .nil) .nil)
 (.cons (.ret (.call 50 (.cons (.v 0) (.cons (.bin .add (.bin .add (.sl (.v 4) .none (.some (.k (.int 2)))) (.tup (.cons (.b1 .tuple (.v 5)) .nil))) (.sl (.v 4) (.some (.k (.int 3))) .none)) .nil))))
 .nil)))))))
def F_fill_place : Ss := (.cons (.ex (.call 46 (.cons (.v 0) .nil)))
 (.cons (.set 4 (.call 48 (.cons (.v 0) (.cons (.v 1) .nil))))
 (.cons (.own 5 (.lc (.v 6) (.name 6) (.seq (.ix (.v 4) (.k (.int 3)))) (.some (.cmp .ne (.ix (.v 6) (.k (.int 0))) (.v 2))) [6]))
 (.frz 5 (.cons (.ifs (.isN (.v 3)) (.cons (.ifs (.cmp .eq (.b1 .len (.v 5)) (.b1 .len (.ix (.v 4) (.k (.int 3))))) (.cons (.raise_ 10 (.k (.dct [])))
 .nil) .nil)
 .nil) (.cons (.ex (.call 25 (.cons (.ix (.v 0) (.k (.int 0))) (.cons (.ix (.v 4) (.k (.int 1))) (.cons (.v 2) .nil)))))
 (.cons (.ifs (.not (.call 6 (.cons (.v 3) .nil))) (.cons (.raise_ 18 (.k (.dct [])))
 .nil) .nil)
 (.cons (.set 5 .bad)
 (.cons (.ifs (.cmp .gt (.b1 .len (.v 5)) (.g 13)) (.cons (.raise_ 21 (.k (.dct [])))
 .nil) .nil)
 .nil)))))
 (.cons (.ret (.call 50 (.cons (.v 0) (.cons (.bin .add (.bin .add (.sl (.v 4) .none (.some (.k (.int 3)))) (.tup (.cons (.b1 .tuple (.v 5)) .nil))) (.sl (.v 4) (.some (.k (.int 4))) .none)) .nil))))
 .nil))))))
def F_lay_slide : Ss := (.cons (.ex (.call 46 (.cons (.v 0) .nil)))
 (.cons (.set 3 (.call 48 (.cons (.v 0) (.cons (.v 1) .nil))))
 (.cons (.ifs (.or (.not (.isin (.v 2) .str)) (.isN (.call 17 (.cons (.ix (.v 0) (.k (.int 0))) (.cons (.v 2) .nil))))) (.cons (.raise_ 3 (.k (.dct [])))
 .nil) .nil)
 (.cons (.ret (.call 50 (.cons (.v 0) (.cons (.bin .add (.bin .add (.sl (.v 3) .none (.some (.k (.int 1)))) (.tup (.cons (.v 2) .nil))) (.sl (.v 3) (.some (.k (.int 2))) .none)) .nil))))
 .nil))))
def F_put_master : Ss := (.cons (.unp [2, 3] (.v 0))
 (.cons (.ifs (.not (.call 16 (.cons (.v 1) .nil))) (.cons (.raise_ 3 (.k (.dct [])))
 .nil) .nil)
 (.cons (.ifs (.notN (.call 17 (.cons (.v 2) (.cons (.ix (.v 1) (.k (.int 0))) .nil)))) (.cons (.raise_ 20 (.k (.dct [])))
 .nil) .nil)
 (.cons (.ifs (.cmp .eq (.b1 .len (.v 2)) (.g 9)) (.cons (.raise_ 21 (.k (.dct [])))
 .nil) .nil)
 (.cons (.ifs (.notN (.ix (.v 1) (.k (.int 1)))) (.cons (.ex (.call 20 (.cons (.v 2) (.cons (.ix (.v 1) (.k (.int 1))) .nil))))
 .nil) .nil)
 (.cons (.ret (.tup (.cons (.bin .add (.v 2) (.tup (.cons (.v 1) .nil))) (.cons (.v 3) .nil))))
 .nil))))))
def F_drop_master : Ss := (.cons (.unp [2, 3] (.v 0))
 (.cons (.ex (.call 20 (.cons (.v 2) (.cons (.v 1) .nil))))
 (.cons (.ifs (.or (.cmp .eq (.b1 .len (.v 2)) (.k (.int 1))) (.or (.cmp .isin (.v 1) (.fl (.lc (.ix (.v 4) (.k (.int 1))) (.name 4) (.seq (.v 3)) .none [4]))) (.cmp .isin (.v 1) (.fl (.lc (.ix (.v 5) (.k (.int 1))) (.name 5) (.seq (.v 2)) .none [5]))))) (.cons (.raise_ 22 (.k (.dct [])))
 .nil) .nil)
 (.cons (.ret (.tup (.cons (.b1 .tuple (.fl (.lc (.v 5) (.name 5) (.seq (.v 2)) (.some (.cmp .ne (.ix (.v 5) (.k (.int 0))) (.v 1))) [5]))) (.cons (.v 3) .nil))))
 .nil))))
def F_must_be_at : Ss := (.cons (.ifs (.not (.call 2 (.cons (.v 0) (.cons (.k (.int 0)) (.cons (.v 1) .nil))))) (.cons (.raise_ 5 (.k (.dct [])))
 .nil) .nil)
 .nil)
def F_names_of : Ss := (.cons (.ret (.fl (.lc (.ix (.v 1) (.k (.int 0))) (.name 1) (.seq (.ix (.v 0) (.k (.int 1)))) .none [1])))
 .nil)
def F_add_slide : Ss := (.cons (.unp [3, 4] (.v 0))
 (.cons (.ifs (.not (.call 40 (.cons (.v 2) .nil))) (.cons (.raise_ 12 (.k (.dct [])))
 .nil) .nil)
 (.cons (.ifs (.cmp .isin (.ix (.v 2) (.k (.int 0))) (.call 71 (.cons (.v 0) .nil))) (.cons (.raise_ 20 (.k (.dct [])))
 .nil) .nil)
 (.cons (.ifs (.cmp .eq (.b1 .len (.v 4)) (.g 11)) (.cons (.raise_ 21 (.k (.dct [])))
 .nil) .nil)
 (.cons (.ex (.call 20 (.cons (.v 3) (.cons (.ix (.v 2) (.k (.int 1))) .nil))))
 (.cons (.ifs (.call 42 (.cons (.v 2) (.cons (.fl (.cat (.call 71 (.cons (.v 0) .nil)) (.fl (.lst (.cons (.ix (.v 2) (.k (.int 0))) .nil))))) .nil))) (.cons (.raise_ 2 (.k (.dct [])))
 .nil) .nil)
 (.cons (.ex (.call 70 (.cons (.v 1) (.cons (.b1 .len (.v 4)) .nil))))
 (.cons (.ret (.tup (.cons (.v 3) (.cons (.bin .add (.bin .add (.sl (.v 4) .none (.some (.v 1))) (.tup (.cons (.v 2) .nil))) (.sl (.v 4) (.some (.v 1)) .none)) .nil))))
 .nil))))))))
def F_without : Ss := (.cons (.ret (.b1 .tuple (.fl (.lc (.v 2) (.name 2) (.seq (.ix (.v 0) (.k (.int 1)))) (.some (.cmp .ne (.ix (.v 2) (.k (.int 0))) (.v 1))) [2]))))
 .nil)
def F_take_slide : Ss := (.cons (.ex (.call 48 (.cons (.v 0) (.cons (.v 1) .nil))))
 (.cons (.set 2 (.call 73 (.cons (.v 0) (.cons (.v 1) .nil))))
 (.cons (.ifs (.b1 .any (.fl (.lc (.call 42 (.cons (.v 4) (.cons (.fl (.lc (.ix (.v 3) (.k (.int 0))) (.name 3) (.seq (.v 2)) .none [3])) .nil))) (.name 4) (.seq (.v 2)) .none [4, 3]))) (.cons (.raise_ 22 (.k (.dct [])))
 .nil) .nil)
 (.cons (.ret (.tup (.cons (.ix (.v 0) (.k (.int 0))) (.cons (.v 2) .nil))))
 .nil))))
def F_go_slide : Ss := (.cons (.set 3 (.call 48 (.cons (.v 0) (.cons (.v 1) .nil))))
 (.cons (.set 4 (.call 73 (.cons (.v 0) (.cons (.v 1) .nil))))
 (.cons (.ex (.call 70 (.cons (.v 2) (.cons (.b1 .len (.v 4)) .nil))))
 (.cons (.ret (.tup (.cons (.ix (.v 0) (.k (.int 0))) (.cons (.bin .add (.bin .add (.sl (.v 4) .none (.some (.v 2))) (.tup (.cons (.v 3) .nil))) (.sl (.v 4) (.some (.v 2)) .none)) .nil))))
 .nil))))
def F_renamed_link : Ss := (.cons (.unp [2, 3] (.v 0))
 (.cons (.ifs (.cmp .eq (.ix (.v 3) (.k (.int 0))) (.k (.str [115, 108, 105, 100, 101]))) (.cons (.ret (.tup (.cons (.v 2) (.cons (.tup (.cons (.k (.str [115, 108, 105, 100, 101])) (.cons .bad .nil))) .nil))))
 .nil) .nil)
 (.cons (.ret (.v 0))
 .nil)))
def F_must_be_free : Ss := (.cons (.ifs (.not (.call 3 (.cons (.v 0) .nil))) (.cons (.raise_ 4 (.k (.dct [])))
 .nil) .nil)
 (.cons (.ifs (.and (.cmp .ne (.v 0) (.v 1)) (.cmp .isin (.v 0) (.v 2))) (.cons (.raise_ 20 (.k (.dct [])))
 .nil) .nil)
 .nil))
def F_call_slide : Ss := (.cons (.ex (.call 48 (.cons (.v 0) (.cons (.v 1) .nil))))
 (.cons (.ex (.call 77 (.cons (.v 2) (.cons (.v 1) (.cons (.call 71 (.cons (.v 0) .nil)) .nil)))))
 (.cons (.set 3 .bad)
 (.cons (.own 4 (.lst .nil))
 (.cons (.for_ (.name 5) (.seq (.ix (.v 0) (.k (.int 1)))) (.cons (.set 6 (.b1 .tuple (.fl (.lc (.call 76 (.cons (.v 7) (.cons (.v 3) .nil))) (.name 7) (.seq (.ix (.v 5) (.k (.int 5)))) .none [7]))))
 (.cons (.app 4 (.bin .add (.bin .add (.bin .add (.tup (.cons .bad .nil)) (.sl (.v 5) (.some (.k (.int 1))) (.some (.k (.int 5))))) (.tup (.cons (.v 6) .nil))) (.sl (.v 5) (.some (.k (.int 6))) .none)))
 .nil)))
 (.frz 4 (.cons (.ret (.tup (.cons (.ix (.v 0) (.k (.int 0))) (.cons (.b1 .tuple (.v 4)) .nil))))
 .nil)))))))
def F_rename_master : Ss := (.cons (.unp [3, 4] (.v 0))
 (.cons (.ex (.call 20 (.cons (.v 3) (.cons (.v 1) .nil))))
 (.cons (.ex (.call 77 (.cons (.v 2) (.cons (.v 1) (.cons (.fl (.lc (.ix (.v 5) (.k (.int 0))) (.name 5) (.seq (.v 3)) .none [5])) .nil)))))
 (.cons (.set 6 .bad)
 (.cons (.own 7 (.lc (.tup (.cons .bad (.cons .bad (.cons (.ix (.v 8) (.k (.int 2))) .nil)))) (.name 8) (.seq (.v 3)) .none [8]))
 (.frz 7 (.cons (.ret (.tup (.cons (.b1 .tuple (.v 7)) (.cons (.b1 .tuple (.fl (.lc (.bin .add (.tup (.cons (.ix (.v 8) (.k (.int 0))) (.cons .bad .nil))) (.sl (.v 8) (.some (.k (.int 2))) .none)) (.name 8) (.seq (.v 4)) .none [8]))) .nil))))
 .nil)))))))
def F_must_be_worth : Ss := (.cons (.ifs (.not (.v 0)) (.cons (.raise_ 18 (.k (.dct [])))
 .nil) .nil)
 .nil)
def F_hide_slide : Ss := (.cons (.set 3 (.call 48 (.cons (.v 0) (.cons (.v 1) .nil))))
 (.cons (.ex (.call 80 (.cons (.call 2 (.cons (.v 2) (.cons (.k (.int 0)) (.cons (.k (.int 1)) .nil)))) .nil)))
 (.cons (.ret (.call 50 (.cons (.v 0) (.cons (.bin .add (.sl (.v 3) .none (.some (.k (.int 6)))) (.tup (.cons (.v 2) (.cons (.ix (.v 3) (.k (.int 7))) .nil)))) .nil))))
 .nil)))
def F_note_slide : Ss := (.cons (.set 3 (.call 48 (.cons (.v 0) (.cons (.v 1) .nil))))
 (.cons (.ex (.call 80 (.cons (.call 5 (.cons (.v 2) (.cons (.g 15) .nil))) .nil)))
 (.cons (.ret (.call 50 (.cons (.v 0) (.cons (.bin .add (.sl (.v 3) .none (.some (.k (.int 7)))) (.tup (.cons (.v 2) .nil))) .nil))))
 .nil)))
def F_step_slide : Ss := (.cons (.set 3 (.call 48 (.cons (.v 0) (.cons (.v 1) .nil))))
 (.cons (.ex (.call 80 (.cons (.call 36 (.cons (.v 2) .nil)) .nil)))
 (.cons (.ret (.call 50 (.cons (.v 0) (.cons (.bin .add (.bin .add (.sl (.v 3) .none (.some (.k (.int 4)))) (.tup (.cons (.v 2) .nil))) (.sl (.v 3) (.some (.k (.int 5))) .none)) .nil))))
 .nil)))
def F_link_slide : Ss := (.cons (.set 3 (.call 48 (.cons (.v 0) (.cons (.v 1) .nil))))
 (.cons (.ex (.call 80 (.cons (.call 39 (.cons (.v 2) .nil)) .nil)))
 (.cons (.set 4 (.bin .add (.bin .add (.sl (.v 3) .none (.some (.k (.int 5)))) (.tup (.cons (.v 2) .nil))) (.sl (.v 3) (.some (.k (.int 6))) .none)))
 (.cons (.ifs (.call 42 (.cons (.v 4) (.cons (.call 71 (.cons (.v 0) .nil)) .nil))) (.cons (.raise_ 2 (.k (.dct [])))
 .nil) .nil)
 (.cons (.ret (.call 50 (.cons (.v 0) (.cons (.v 4) .nil))))
 .nil)))))
def F_done : Ss := (.cons (.ifs (.or (.not (.isin (.v 1) .tup)) (.or (.cmp .eq (.b1 .len (.v 1)) (.k (.int 0))) (.not (.isin (.ix (.v 1) (.k (.int 0))) .str)))) (.cons (.raise_ 1 (.k (.dct [])))
 .nil) .nil)
 (.cons (.set 2 (.ix (.v 1) (.k (.int 0))))
 (.cons (.ifs (.and (.cmp .eq (.b1 .len (.v 1)) (.k (.int 2))) (.cmp .isin (.v 2) (.g 18))) (.cons (.ret (.dyn (.ix (.g 18) (.v 2)) (.cons (.v 0) (.cons (.ix (.v 1) (.k (.int 1))) .nil))))
 .nil) .nil)
 (.cons (.ifs (.and (.cmp .eq (.b1 .len (.v 1)) (.k (.int 3))) (.cmp .isin (.v 2) (.g 19))) (.cons (.ret (.dyn (.ix (.g 19) (.v 2)) (.cons (.v 0) (.cons (.ix (.v 1) (.k (.int 1))) (.cons (.ix (.v 1) (.k (.int 2))) .nil)))))
 .nil) .nil)
 (.cons (.ifs (.and (.cmp .eq (.b1 .len (.v 1)) (.k (.int 4))) (.cmp .isin (.v 2) (.g 20))) (.cons (.ret (.dyn (.ix (.g 20) (.v 2)) (.cons (.v 0) (.cons (.ix (.v 1) (.k (.int 1))) (.cons (.ix (.v 1) (.k (.int 2))) (.cons (.ix (.v 1) (.k (.int 3))) .nil))))))
 .nil) .nil)
 (.cons (.ifs (.and (.cmp .eq (.b1 .len (.v 1)) (.k (.int 5))) (.cmp .isin (.v 2) (.g 21))) (.cons (.ret (.dyn (.ix (.g 21) (.v 2)) (.cons (.v 0) (.cons (.ix (.v 1) (.k (.int 1))) (.cons (.ix (.v 1) (.k (.int 2))) (.cons (.ix (.v 1) (.k (.int 3))) (.cons (.ix (.v 1) (.k (.int 4))) .nil)))))))
 .nil) .nil)
 (.cons (.raise_ 1 (.k (.dct [])))
 .nil)))))))
def F_done_deed : Ss := (.cons (.ex (.call 46 (.cons (.v 0) .nil)))
 (.cons (.ret (.call 85 (.cons (.v 0) (.cons (.v 1) .nil))))
 .nil))
def F_worth_on : Ss := (.cons (.for_ (.tup [4, 5, 6]) (.seq (.ix (.v 1) (.k (.int 2)))) (.cons (.ifs (.and (.cmp .eq (.v 4) (.v 2)) (.cmp .eq (.v 5) (.v 3))) (.cons (.ret (.tup (.cons (.v 6) (.cons (.tup (.cons (.k (.str [104, 97, 110, 100])) .nil)) .nil))))
 .nil) .nil)
 .nil))
 (.cons (.ret (.call 27 (.cons (.ix (.v 0) (.k (.int 0))) (.cons (.ix (.v 1) (.k (.int 1))) (.cons (.v 2) (.cons (.v 3) .nil))))))
 .nil))
def F_worths_of : Ss := (.cons (.ifs (.cmp .notin (.v 2) (.v 3)) (.cons (.ret (.fl (.lc (.k .non) (.name 4) (.seq (.g 0)) .none [4])))
 .nil) .nil)
 (.cons (.ret (.fl (.lc (.ix (.call 105 (.cons (.v 0) (.cons (.v 1) (.cons (.v 2) (.cons (.v 4) .nil))))) (.k (.int 0))) (.name 4) (.seq (.g 0)) .none [4])))
 .nil))
def F_touched_slide : Ss := (.cons (.set 4 (.call 23 (.cons (.ix (.v 0) (.k (.int 0))) (.cons (.ix (.v 2) (.k (.int 1))) .nil))))
 (.cons (.set 5 (.call 23 (.cons (.ix (.v 1) (.k (.int 0))) (.cons (.ix (.v 3) (.k (.int 1))) .nil))))
 (.cons (.own 6 (.lst .nil))
 (.cons (.for_ (.name 7) (.seq (.fl (.cat (.v 4) (.fl (.lc (.v 8) (.name 8) (.seq (.v 5)) (.some (.cmp .notin (.v 8) (.v 4))) [8]))))) (.cons (.set 9 (.call 129 (.cons (.v 0) (.cons (.v 2) (.cons (.v 7) (.cons (.v 4) .nil))))))
 (.cons (.set 10 (.call 129 (.cons (.v 1) (.cons (.v 3) (.cons (.v 7) (.cons (.v 5) .nil))))))
 (.cons (.ext 6 (.fl (.lc (.tup (.cons (.ix (.v 2) (.k (.int 0))) (.cons (.v 7) (.cons (.ix (.g 0) (.v 11)) .nil)))) (.name 11) (.rng1 (.b1 .len (.g 0))) (.some (.cmp .ne (.ix (.v 9) (.v 11)) (.ix (.v 10) (.v 11)))) [11])))
 .nil))))
 (.frz 6 (.cons (.ret (.v 6))
 .nil))))))
def F_touched : Ss := (.cons (.own 2 (.lst .nil))
 (.cons (.for_ (.name 3) (.seq (.ix (.v 0) (.k (.int 1)))) (.cons (.set 4 (.call 47 (.cons (.ix (.v 1) (.k (.int 1))) (.cons (.ix (.v 3) (.k (.int 0))) .nil))))
 (.cons (.ifs (.notN (.v 4)) (.cons (.ext 2 (.call 130 (.cons (.v 0) (.cons (.v 1) (.cons (.v 3) (.cons (.ix (.ix (.v 1) (.k (.int 1))) (.v 4)) .nil))))))
 .nil) .nil)
 .nil)))
 (.frz 2 (.cons (.ret (.v 2))
 .nil))))
def F_touched_by : Ss := (.cons (.ex (.call 46 (.cons (.v 0) .nil)))
 (.cons (.ex (.call 46 (.cons (.v 1) .nil)))
 (.cons (.ret (.call 131 (.cons (.v 0) (.cons (.v 1) .nil))))
 .nil)))
def F_Keeper___init__ : Ss := (.cons (.ex (.call 46 (.cons (.v 1) .nil)))
 (.cons (.setF (.v 0) 0 (.v 1))
 (.cons (.setF (.v 0) 1 (.newL .nil))
 (.cons (.setF (.v 0) 2 (.newL .nil))
 .nil))))
def F_Keeper_deck : Ss := (.cons (.ret (.fld (.v 0) 0))
 .nil)
def F_Keeper_come_to : Ss := (.cons (.set 2 (.fld (.v 0) 0))
 (.cons (.setF (.v 0) 0 (.v 1))
 (.cons (.ret (.call 131 (.cons (.v 2) (.cons (.v 1) .nil))))
 .nil)))
def F_Keeper_do : Ss := (.cons (.set 2 (.call 85 (.cons (.fld (.v 0) 0) (.cons (.v 1) .nil))))
 (.cons (.appS (.fld (.v 0) 1) (.fld (.v 0) 0))
 (.cons (.setF (.v 0) 2 (.newL .nil))
 (.cons (.ret (.me 0 135 (.v 0) (.cons (.v 2) .nil)))
 .nil))))
def F_Keeper_undo : Ss := (.cons (.ex (.call 234 (.cons (.k (.int 0)) .nil)))
 .nil)
def F_Keeper_again : Ss := (.cons (.ex (.call 234 (.cons (.k (.int 1)) .nil)))
 .nil)
def F__law_pen : Ss := (.cons (.ret (.newL (.cons (.fl (.list (.fl (.slc (.v 0) .none (.some (.k (.int 63))))))) (.cons (.k (.int 0)) (.cons (.k (.int 0)) .nil)))))
 .nil)
def F__law_draw : Ss := (.cons (.ifs (.cmp .gt (.ix (.v 0) (.k (.int 2))) (.k (.int 0))) (.cons (.set 2 (.bin .mod (.ix (.v 0) (.k (.int 2))) (.v 1)))
 (.cons (.setI (.v 0) (.k (.int 2)) (.bin .fdiv (.ix (.v 0) (.k (.int 2))) (.v 1)))
 (.cons (.ret (.v 2))
 .nil))) .nil)
 (.cons (.set 3 (.ix (.v 0) (.k (.int 1))))
 (.cons (.setI (.v 0) (.k (.int 1)) (.bin .add (.v 3) (.k (.int 1))))
 (.cons (.set 4 (.k (.int 7)))
 (.cons (.ifs (.cmp .gt (.b1 .len (.ix (.v 0) (.k (.int 0)))) (.k (.int 0))) (.cons (.set 4 (.ix (.ix (.v 0) (.k (.int 0))) (.bin .mod (.v 3) (.b1 .len (.ix (.v 0) (.k (.int 0)))))))
 .nil) .nil)
 (.cons (.ifs (.and (.cmp .lt (.v 3) (.b1 .len (.ix (.v 0) (.k (.int 0))))) (.cmp .ge (.v 4) (.bin .pow (.k (.int 10)) (.k (.int 18))))) (.cons (.setI (.v 0) (.k (.int 2)) (.bin .fdiv (.v 4) (.v 1)))
 (.cons (.ret (.bin .mod (.v 4) (.v 1)))
 .nil)) .nil)
 (.cons (.set 5 (.bin .mod (.bin .mul (.bin .add (.bin .mod (.v 4) (.k (.int 2147483629))) (.k (.int 11))) (.bin .add (.bin .add (.bin .mul (.v 3) (.v 3)) (.bin .mul (.k (.int 5)) (.v 3))) (.k (.int 3)))) (.k (.int 2147483647))))
 (.cons (.ret (.bin .mod (.bin .fdiv (.bin .mod (.bin .mul (.bin .mod (.bin .add (.bin .pow (.v 5) (.k (.int 3))) (.bin .mul (.k (.int 69621)) (.v 3))) (.k (.int 2147483587))) (.k (.int 40692))) (.k (.int 2147483399))) (.k (.int 64))) (.v 1)))
 .nil))))))))
def F__law_names : Ss := (.cons (.paro 2 3 (.k (.str [97, 98, 99, 100, 101, 102, 103, 104, 105, 106, 107, 108, 109, 110, 111, 112, 113, 114, 115, 116, 117, 118, 119, 120, 121, 122])) (.lst .nil))
 (.cons (.par [4, 5] (.tup (.cons (.bin .add (.ix (.fl (.lst (.cons (.k (.int 1)) (.cons (.k (.int 3)) (.cons (.k (.int 5)) (.cons (.k (.int 7)) (.cons (.k (.int 9)) (.cons (.k (.int 11)) (.cons (.k (.int 15)) (.cons (.k (.int 17)) .nil)))))))))) (.call 201 (.cons (.v 0) (.cons (.k (.int 8)) .nil)))) (.bin .mul (.k (.int 26)) (.call 201 (.cons (.v 0) (.cons (.k (.int 13)) .nil))))) (.cons (.call 201 (.cons (.v 0) (.cons (.k (.int 676)) .nil))) .nil))))
 (.cons (.for_ (.name 6) (.rng1 (.v 1)) (.cons (.set 7 (.ix (.fl (.lst (.cons (.k (.str [])) (.cons (.k (.str [])) (.cons (.k (.str [97])) (.cons (.k (.str [122, 57])) (.cons (.k (.str [116, 105, 116, 108, 101])) (.cons (.k (.str [109, 48, 109, 48, 109, 48])) (.cons (.k (.str [98])) .nil))))))))) (.call 201 (.cons (.v 0) (.cons (.k (.int 7)) .nil)))))
 (.cons (.app 3 (.bin .add (.bin .add (.v 7) (.ix (.v 2) (.bin .fdiv (.v 5) (.k (.int 26))))) (.ix (.v 2) (.bin .mod (.v 5) (.k (.int 26))))))
 (.cons (.set 5 (.bin .mod (.bin .add (.v 5) (.v 4)) (.k (.int 676))))
 .nil))))
 (.cons (.ifs (.and (.cmp .gt (.v 1) (.k (.int 0))) (.cmp .eq (.call 201 (.cons (.v 0) (.cons (.k (.int 6)) .nil))) (.k (.int 0)))) (.cons (.setO 3 (.call 201 (.cons (.v 0) (.cons (.v 1) .nil))) (.ix (.v 2) (.call 201 (.cons (.v 0) (.cons (.k (.int 26)) .nil)))))
 .nil) .nil)
 (.frz 3 (.cons (.ret (.v 3))
 .nil))))))
def F__law_line : Ss := (.cons (.set 1 (.fl (.lst (.cons (.k (.str [97])) (.cons (.k (.str [87, 111, 114, 100])) (.cons (.k (.str [101, 110, 100, 46])) (.cons (.k (.str [123, 110, 125])) (.cons (.k (.str [123, 97, 108, 108, 125])) (.cons (.k (.str [123, 110, 97, 109, 101, 125])) (.cons (.k (.str [100, 111, 110, 39, 116, 59])) (.cons (.k (.str [])) (.cons (.k (.str [])) (.cons (.bin .mul (.k (.str [120])) (.k (.int 23))) (.cons (.k (.str [123, 110])) (.cons (.k (.str [123, 123, 110, 125, 125])) (.cons (.k (.str [123, 78, 125, 32, 126, 33])) (.cons (.k (.str [119, 111, 114, 100])) .nil)))))))))))))))))
 (.cons (.set 2 (.m .join (.k (.str [32])) (.cons (.fl (.lc (.ix (.v 1) (.call 201 (.cons (.v 0) (.cons (.k (.int 14)) .nil)))) (.name 3) (.rng1 (.call 201 (.cons (.v 0) (.cons (.k (.int 6)) .nil)))) .none [3])) .nil)))
 (.cons (.ret (.sl (.v 2) .none (.some (.ix (.fl (.lst (.cons (.k (.int 60)) (.cons (.k (.int 60)) (.cons (.k (.int 7)) .nil))))) (.call 201 (.cons (.v 0) (.cons (.k (.int 3)) .nil)))))))
 .nil)))
def F__law_lines : Ss := (.cons (.set 1 (.ix (.fl (.lst (.cons (.call 201 (.cons (.v 0) (.cons (.k (.int 4)) .nil))) (.cons (.call 201 (.cons (.v 0) (.cons (.k (.int 4)) .nil))) (.cons (.k (.int 12)) .nil))))) (.call 201 (.cons (.v 0) (.cons (.k (.int 3)) .nil)))))
 (.cons (.ret (.b1 .tuple (.fl (.lc (.sl (.call 203 (.cons (.v 0) .nil)) .none (.some (.ix (.fl (.lst (.cons (.k (.int 60)) (.cons (.k (.int 12)) .nil)))) (.b1 .int (.cmp .gt (.v 1) (.k (.int 3))))))) (.name 2) (.rng1 (.v 1)) .none [2]))))
 .nil))
def F__law_worth : Ss := (.cons (.ifs (.cmp .eq (.v 1) (.k (.str [105, 110, 107]))) (.cons (.ret (.ix (.fl (.lst (.cons (.k (.str [112, 108, 97, 105, 110])) (.cons (.k (.str [114, 101, 100])) (.cons (.k (.str [98, 49])) (.cons (.k (.str [97, 98, 99, 100, 101, 102, 103, 56])) (.cons (.k (.str [122])) .nil))))))) (.call 201 (.cons (.v 0) (.cons (.k (.int 5)) .nil)))))
 .nil) .nil)
 (.cons (.ifs (.cmp .isin (.v 1) (.tup (.cons (.k (.str [108, 101, 102, 116])) (.cons (.k (.str [116, 111, 112])) .nil)))) (.cons (.ret (.ix (.fl (.lst (.cons (.call 201 (.cons (.v 0) (.cons (.k (.int 9)) .nil))) (.cons (.bin .add (.neg (.k (.int 999))) (.call 201 (.cons (.v 0) (.cons (.k (.int 1999)) .nil)))) (.cons (.neg (.k (.int 999))) (.cons (.k (.int 999)) .nil)))))) (.call 201 (.cons (.v 0) (.cons (.k (.int 4)) .nil)))))
 .nil) .nil)
 (.cons (.ifs (.cmp .eq (.v 1) (.k (.str [115, 105, 122, 101]))) (.cons (.ret (.ix (.fl (.lst (.cons (.k (.int 1)) (.cons (.k (.int 2)) (.cons (.k (.int 3)) (.cons (.bin .add (.k (.int 1)) (.call 201 (.cons (.v 0) (.cons (.k (.int 99)) .nil)))) (.cons (.k (.int 99)) .nil))))))) (.call 201 (.cons (.v 0) (.cons (.k (.int 5)) .nil)))))
 .nil) .nil)
 (.cons (.ret (.ix (.fl (.lst (.cons (.bin .add (.k (.int 1)) (.call 201 (.cons (.v 0) (.cons (.k (.int 30)) .nil)))) (.cons (.bin .add (.k (.int 1)) (.call 201 (.cons (.v 0) (.cons (.k (.int 60)) .nil)))) (.cons (.bin .add (.k (.int 1)) (.call 201 (.cons (.v 0) (.cons (.k (.int 999)) .nil)))) (.cons (.k (.int 1)) (.cons (.k (.int 999)) .nil))))))) (.call 201 (.cons (.v 0) (.cons (.k (.int 5)) .nil)))))
 .nil))))
def F__law_traits : Ss := (.cons (.ret (.fl (.lst (.cons (.k (.str [108, 101, 102, 116])) (.cons (.k (.str [116, 111, 112])) (.cons (.k (.str [119, 105, 100, 101])) (.cons (.k (.str [104, 105, 103, 104])) (.cons (.k (.str [115, 105, 122, 101])) (.cons (.k (.str [105, 110, 107])) .nil)))))))))
 .nil)
def F__law_place : Ss := (.cons (.set 2 (.b1 .tuple (.fl (.lc (.tup (.cons (.v 3) (.cons (.call 205 (.cons (.v 0) (.cons (.v 3) .nil))) .nil))) (.name 3) (.seq (.call 206 .nil)) (.some (.cmp .eq (.call 201 (.cons (.v 0) (.cons (.k (.int 3)) .nil))) (.k (.int 0)))) [3]))))
 (.cons (.ret (.tup (.cons (.v 1) (.cons (.v 2) (.cons (.ix (.fl (.lst (.cons (.k .non) (.cons (.k .non) (.cons (.call 204 (.cons (.v 0) .nil)) .nil))))) (.call 201 (.cons (.v 0) (.cons (.k (.int 3)) .nil)))) .nil)))))
 .nil))
def F__law_masters : Ss := (.cons (.set 3 (.call 202 (.cons (.v 0) (.cons (.bin .add (.k (.int 1)) (.call 201 (.cons (.v 0) (.cons (.v 1) .nil)))) .nil))))
 (.cons (.own 4 (.lst .nil))
 (.cons (.for_ (.name 5) (.rng1 (.b1 .len (.v 3))) (.cons (.set 6 (.k .non))
 (.cons (.ifs (.and (.cmp .gt (.v 5) (.k (.int 0))) (.cmp .gt (.call 201 (.cons (.v 0) (.cons (.k (.int 4)) .nil))) (.k (.int 0)))) (.cons (.set 6 (.ix (.v 3) (.ix (.fl (.lst (.cons (.bin .sub (.v 5) (.k (.int 1))) (.cons (.call 201 (.cons (.v 0) (.cons (.v 5) .nil))) .nil)))) (.call 201 (.cons (.v 0) (.cons (.k (.int 2)) .nil))))))
 .nil) .nil)
 (.cons (.own 7 (.lst .nil))
 (.cons (.for_ (.name 8) (.seq (.v 2)) (.cons (.ifs (.and (.cmp .eq (.call 201 (.cons (.v 0) (.cons (.k (.int 3)) .nil))) (.k (.int 0))) (.cmp .lt (.lenO 7) (.k (.int 8)))) (.cons (.ins 7 (.call 201 (.cons (.v 0) (.cons (.bin .add (.lenO 7) (.k (.int 1))) .nil))) (.call 207 (.cons (.v 0) (.cons (.v 8) .nil))))
 .nil) .nil)
 .nil))
 (.frz 7 (.cons (.ins 4 (.call 201 (.cons (.v 0) (.cons (.bin .add (.lenO 4) (.k (.int 1))) .nil))) (.tup (.cons (.ix (.v 3) (.v 5)) (.cons (.v 6) (.cons (.b1 .tuple (.v 7)) .nil)))))
 .nil)))))))
 (.frz 4 (.cons (.ret (.b1 .tuple (.v 4)))
 .nil)))))
def F__law_steps : Ss := (.cons (.own 3 (.lst .nil))
 (.cons (.for_ (.name 4) (.rng1 (.call 201 (.cons (.v 0) (.cons (.bin .add (.v 2) (.k (.int 1))) .nil)))) (.cons (.set 5 (.ix (.fl (.lst (.cons (.k (.str [112, 114, 101, 115, 115])) (.cons (.k (.str [119, 105, 116, 104])) (.cons (.k (.str [97, 102, 116, 101, 114])) (.cons (.k (.str [119, 105, 116, 104])) .nil)))))) (.call 201 (.cons (.v 0) (.cons (.k (.int 4)) .nil)))))
 (.cons (.set 6 (.ix (.fl (.lst (.cons (.k (.int 0)) (.cons (.call 201 (.cons (.v 0) (.cons (.k (.int 6)) .nil))) (.cons (.call 201 (.cons (.v 0) (.cons (.k (.int 100)) .nil))) .nil))))) (.call 201 (.cons (.v 0) (.cons (.k (.int 3)) .nil)))))
 (.cons (.set 7 (.ix (.fl (.lst (.cons (.k .non) (.cons (.call 201 (.cons (.v 0) (.cons (.k (.int 3)) .nil))) (.cons (.call 201 (.cons (.v 0) (.cons (.k (.int 12)) .nil))) .nil))))) (.call 201 (.cons (.v 0) (.cons (.k (.int 3)) .nil)))))
 (.cons (.app 3 (.tup (.cons (.v 5) (.cons (.v 6) (.cons (.ix (.fl (.lst (.cons (.k (.str [99, 111, 109, 101])) (.cons (.k (.str [103, 111])) (.cons (.k (.str [100, 105, 109])) .nil))))) (.call 201 (.cons (.v 0) (.cons (.k (.int 3)) .nil)))) (.cons (.ix (.v 1) (.call 201 (.cons (.v 0) (.cons (.b1 .len (.v 1)) .nil)))) (.cons (.v 7) .nil)))))))
 .nil)))))
 (.frz 3 (.cons (.ret (.b1 .tuple (.v 3)))
 .nil))))
def F__law_slide : Ss := (.cons (.set 5 (.ix (.ix (.v 2) (.call 201 (.cons (.v 0) (.cons (.b1 .len (.v 2)) .nil)))) (.k (.int 0))))
 (.cons (.own 6 (.lst .nil))
 (.cons (.for_ (.name 7) (.seq (.fl (.srt (.v 3)))) (.cons (.ifs (.and (.cmp .lt (.lenO 6) (.k (.int 42))) (.cmp .eq (.call 201 (.cons (.v 0) (.cons (.k (.int 3)) .nil))) (.k (.int 0)))) (.cons (.ext 6 (.fl (.lc (.tup (.cons (.v 7) (.cons (.v 8) (.cons (.call 205 (.cons (.v 0) (.cons (.v 8) .nil))) .nil)))) (.name 8) (.seq (.call 206 .nil)) (.some (.cmp .eq (.call 201 (.cons (.v 0) (.cons (.k (.int 3)) .nil))) (.k (.int 0)))) [8])))
 .nil) .nil)
 .nil))
 (.frz 6 (.cons (.set 9 (.sl (.b1 .tuple (.fl (.lc (.tup (.cons (.v 7) (.cons (.call 204 (.cons (.v 0) .nil)) .nil))) (.name 7) (.seq (.fl (.srt (.v 3)))) (.some (.cmp .eq (.call 201 (.cons (.v 0) (.cons (.k (.int 3)) .nil))) (.k (.int 0)))) [7]))) .none (.some (.k (.int 12)))))
 (.cons (.own 10 (.lst .nil))
 (.cons (.for_ (.name 7) (.seq (.fl (.srt (.v 3)))) (.cons (.ifs (.cmp .eq (.call 201 (.cons (.v 0) (.cons (.k (.int 5)) .nil))) (.k (.int 0))) (.cons (.set 11 (.fl (.lst (.cons (.tup (.cons (.k (.str [115, 108, 105, 100, 101])) (.cons (.ix (.v 4) (.call 201 (.cons (.v 0) (.cons (.b1 .len (.v 4)) .nil)))) .nil))) (.cons (.tup (.cons (.k (.str [102, 105, 114, 115, 116])) .nil)) (.cons (.tup (.cons (.k (.str [108, 97, 115, 116])) .nil)) (.cons (.tup (.cons (.k (.str [114, 101, 116, 117, 114, 110])) .nil)) .nil)))))))
 (.cons (.app 10 (.tup (.cons (.v 7) (.cons (.ix (.v 11) (.call 201 (.cons (.v 0) (.cons (.k (.int 4)) .nil)))) .nil))))
 .nil)) .nil)
 .nil))
 (.frz 10 (.cons (.set 12 (.ix (.fl (.lst (.cons (.k (.str [])) (.cons (.k (.str [115, 97, 121, 32, 105, 116])) (.cons (.call 203 (.cons (.v 0) .nil)) (.cons (.bin .mul (.k (.str [110])) (.k (.int 200))) .nil)))))) (.call 201 (.cons (.v 0) (.cons (.k (.int 4)) .nil)))))
 (.cons (.set 13 (.call 209 (.cons (.v 0) (.cons (.v 3) (.cons (.ix (.fl (.lst (.cons (.k (.int 4)) (.cons (.k (.int 12)) .nil)))) (.call 201 (.cons (.v 0) (.cons (.k (.int 2)) .nil)))) .nil)))))
 (.cons (.ret (.tup (.cons (.v 1) (.cons (.v 5) (.cons (.b1 .tuple (.v 6)) (.cons (.v 9) (.cons (.v 13) (.cons (.b1 .tuple (.fl (.slc (.v 10) .none (.some (.k (.int 12)))))) (.cons (.b1 .int (.cmp .eq (.call 201 (.cons (.v 0) (.cons (.k (.int 4)) .nil))) (.k (.int 0)))) (.cons (.v 12) .nil))))))))))
 .nil)))))))))))
def F__law_deck : Ss := (.cons (.set 3 (.call 202 (.cons (.v 0) (.cons (.bin .add (.k (.int 1)) (.call 201 (.cons (.v 0) (.cons (.k (.int 5)) .nil)))) .nil))))
 (.cons (.set 4 (.call 208 (.cons (.v 0) (.cons (.v 1) (.cons (.v 3) .nil)))))
 (.cons (.set 5 (.call 202 (.cons (.v 0) (.cons (.call 201 (.cons (.v 0) (.cons (.bin .add (.v 2) (.k (.int 1))) .nil))) .nil))))
 (.cons (.ret (.tup (.cons (.v 4) (.cons (.b1 .tuple (.fl (.lc (.call 210 (.cons (.v 0) (.cons (.v 6) (.cons (.v 4) (.cons (.v 3) (.cons (.v 5) .nil)))))) (.name 6) (.seq (.v 5)) .none [6]))) .nil))))
 .nil))))
def F__law_same : Ss := (.cons (.ifs (.isin (.v 1) .tupLst) (.cons (.ifs (.or (.not (.isin (.v 0) .tupLst)) (.cmp .ne (.isin (.v 0) .lst) (.isin (.v 1) .lst))) (.cons (.ret (.k (.bl false)))
 .nil) .nil)
 (.cons (.ifs (.cmp .ne (.b1 .len (.v 0)) (.b1 .len (.v 1))) (.cons (.ret (.k (.bl false)))
 .nil) .nil)
 (.cons (.ret (.b1 .all (.fl (.lc (.call 212 (.cons (.v 2) (.cons (.v 3) .nil))) (.tup [2, 3]) (.zip (.v 0) (.v 1)) .none [2, 3]))))
 .nil))) .nil)
 (.cons (.ifs (.or (.isN (.v 1)) (.isN (.v 0))) (.cons (.ret (.and (.isN (.v 0)) (.isN (.v 1))))
 .nil) .nil)
 (.cons (.ifs (.or (.cmp .ne (.isin (.v 0) .bool) (.isin (.v 1) .bool)) (.cmp .ne (.isin (.v 0) .str) (.isin (.v 1) .str))) (.cons (.ret (.k (.bl false)))
 .nil) .nil)
 (.cons (.ifs (.cmp .ne (.isin (.v 0) .int) (.isin (.v 1) .int)) (.cons (.ret (.k (.bl false)))
 .nil) .nil)
 (.cons (.ret (.cmp .eq (.v 0) (.v 1)))
 .nil)))))
def F__law_did : Ss := (.cons (.try_ (.cons (.ret (.tup (.cons (.k (.bl true)) (.cons (.call 86 (.cons (.v 0) (.cons (.v 1) .nil))) .nil))))
 .nil) .tf 2 [0, 1, 2, 3, 4, 5, 6, 7, 8, 9, 10, 11, 12, 13, 14, 15, 16, 17, 18, 19, 20, 21, 22, 23])
 .nil)
def F__wall : Ss := (.cons (.while_ (.k (.bl true)) (.cons .pass
 .nil))
 .nil)
def F__law_fault_free : Ss := (.cons (.set 2 (.call 201 (.cons (.v 0) (.cons (.k (.int 28)) .nil))))
 (.cons (.ifs (.cmp .gt (.v 2) (.k (.int 13))) (.cons (.ret (.v 1))
 .nil) .nil)
 (.cons (.ifs (.cmp .lt (.v 2) (.k (.int 3))) (.cons (.ret (.ix (.fl (.lst (.cons (.k .non) (.cons (.ix (.v 1) (.k (.int 0))) (.cons (.fl (.list (.v 1))) .nil))))) (.v 2)))
 .nil) .nil)
 (.cons (.ifs (.cmp .lt (.v 2) (.k (.int 7))) (.cons (.ret (.ix (.fl (.lst (.cons (.tup (.cons (.ix (.v 1) (.k (.int 0))) (.cons (.fl (.list (.ix (.v 1) (.k (.int 1))))) .nil))) (.cons (.tup (.cons (.tup .nil) (.cons (.ix (.v 1) (.k (.int 1))) .nil))) (.cons (.tup (.cons (.bin .add (.ix (.v 1) (.k (.int 0))) (.sl (.ix (.v 1) (.k (.int 0))) .none (.some (.k (.int 1))))) (.cons (.ix (.v 1) (.k (.int 1))) .nil))) (.cons (.bin .add (.v 1) (.tup (.cons (.tup .nil) .nil))) .nil)))))) (.bin .sub (.v 2) (.k (.int 3)))))
 .nil) .nil)
 (.cons (.ifs (.cmp .eq (.v 2) (.k (.int 7))) (.cons (.ret (.tup (.cons (.bin .add (.sl (.ix (.v 1) (.k (.int 0))) .none (.some (.neg (.k (.int 1))))) (.tup (.cons (.tup (.cons (.ix (.ix (.ix (.v 1) (.k (.int 0))) (.neg (.k (.int 1)))) (.k (.int 0))) (.cons (.k (.str [110, 111, 98, 111, 100, 121])) (.cons (.ix (.ix (.ix (.v 1) (.k (.int 0))) (.neg (.k (.int 1)))) (.k (.int 2))) .nil)))) .nil))) (.cons (.ix (.v 1) (.k (.int 1))) .nil))))
 .nil) .nil)
 (.cons (.set 3 (.tup (.cons (.k (.str [122, 122, 57])) (.cons (.ix (.ix (.ix (.v 1) (.k (.int 0))) (.k (.int 0))) (.k (.int 0))) (.cons (.tup .nil) (.cons (.tup .nil) (.cons (.tup .nil) (.cons (.tup .nil) (.cons (.k (.int 0)) (.cons (.k (.str [])) .nil))))))))))
 (.cons (.set 4 (.fl (.lst (.cons (.tup (.cons (.v 3) (.cons (.v 3) .nil))) (.cons (.tup (.cons (.bin .add (.bin .add (.sl (.v 3) .none (.some (.k (.int 1)))) (.tup (.cons (.k (.str [110, 111, 98, 111, 100, 121])) .nil))) (.sl (.v 3) (.some (.k (.int 2))) .none)) .nil)) (.cons (.tup (.cons (.bin .add (.sl (.v 3) .none (.some (.k (.int 5)))) (.tup (.cons (.tup (.cons (.tup (.cons (.k (.str [97])) (.cons (.tup (.cons (.k (.str [115, 108, 105, 100, 101])) (.cons (.k (.str [110, 111, 98, 111, 100, 121])) .nil))) .nil))) .nil)) (.cons (.k (.int 0)) (.cons (.k (.str [])) .nil))))) .nil)) .nil))))))
 (.cons (.set 4 (.fl (.cat (.v 4) (.fl (.lst (.cons (.tup (.cons (.bin .add (.bin .add (.sl (.v 3) .none (.some (.k (.int 2)))) (.tup (.cons (.tup (.cons (.tup (.cons (.k (.str [97])) (.cons (.k (.str [115, 105, 122, 101])) (.cons (.k (.int 100)) .nil)))) .nil)) .nil))) (.sl (.v 3) (.some (.k (.int 3))) .none)) .nil)) (.cons (.tup (.cons (.bin .add (.sl (.v 3) .none (.some (.k (.int 6)))) (.tup (.cons (.k (.bl true)) (.cons (.k (.str [])) .nil)))) .nil)) (.cons (.tup (.cons (.fl (.list (.v 3))) .nil)) .nil))))))))
 (.cons (.ret (.tup (.cons (.ix (.v 1) (.k (.int 0))) (.cons (.bin .add (.ix (.v 1) (.k (.int 1))) (.ix (.v 4) (.bin .sub (.v 2) (.k (.int 8))))) .nil))))
 .nil)))))))))
def F__law_done : Ss := (.cons (.try_ (.cons (.ex (.call 86 (.cons (.v 0) (.cons (.v 1) .nil))))
 .nil) .wd 2 [0, 1, 2, 3, 4, 5, 6, 7, 8, 9, 10, 11, 12, 13, 14, 15, 16, 17, 18, 19, 20, 21, 22, 23])
 (.cons (.ret (.k (.str [100, 111, 110, 101])))
 .nil))
def F__law_kept : Ss := (.cons (.try_ (.cons (.ex (.me 0 136 (.v 0) (.cons (.v 1) .nil)))
 .nil) .wd 2 [0, 1, 2, 3, 4, 5, 6, 7, 8, 9, 10, 11, 12, 13, 14, 15, 16, 17, 18, 19, 20, 21, 22, 23])
 (.cons (.ret (.k (.str [100, 111, 110, 101])))
 .nil))
def F_Keeper_undo_238 : Ss := (.cons (.ifs (.cmp .eq (.fld (.v 0) 1) (.fl (.lst .nil))) (.cons (.raise_ 1 (.k (.dct [])))
 .nil) .nil)
 (.cons (.appS (.fld (.v 0) 2) (.fld (.v 0) 0))
 (.cons (.ret (.me 0 135 (.v 0) (.cons (.pop (.fld (.v 0) 1)) .nil)))
 .nil)))
def F_Keeper_again_239 : Ss := (.cons (.ifs (.cmp .eq (.fld (.v 0) 2) (.fl (.lst .nil))) (.cons (.raise_ 1 (.k (.dct [])))
 .nil) .nil)
 (.cons (.appS (.fld (.v 0) 1) (.fld (.v 0) 0))
 (.cons (.ret (.me 0 135 (.v 0) (.cons (.pop (.fld (.v 0) 2)) .nil)))
 .nil)))
def F__law_kept_by : Ss := (.cons (.try_ (.cons (.ifs (.cmp .eq (.v 1) (.k (.str [117, 110, 100, 111]))) (.cons (.ret (.tup (.cons (.k (.bl true)) (.cons (.me 0 238 (.v 0) .nil) .nil))))
 .nil) .nil)
 (.cons (.ifs (.cmp .eq (.v 1) (.k (.str [97, 103, 97, 105, 110]))) (.cons (.ret (.tup (.cons (.k (.bl true)) (.cons (.me 0 239 (.v 0) .nil) .nil))))
 .nil) .nil)
 (.cons (.ret (.tup (.cons (.k (.bl true)) (.cons (.me 0 136 (.v 0) (.cons (.v 2) .nil)) .nil))))
 .nil))) .tf 3 [0, 1, 2, 3, 4, 5, 6, 7, 8, 9, 10, 11, 12, 13, 14, 15, 16, 17, 18, 19, 20, 21, 22, 23])
 .nil)
def F__law_stack_due : Ss := (.cons (.ifs (.cmp .eq (.v 1) (.k (.str [100, 111]))) (.cons (.set 3 (.call 217 (.cons (.ix (.ix (.v 0) (.k (.int 0))) (.ix (.v 0) (.k (.int 1)))) (.cons (.v 2) .nil))))
 (.cons (.ifs (.ix (.v 3) (.k (.int 0))) (.cons (.setI (.v 0) (.k (.int 0)) (.fl (.cat (.fl (.slc (.ix (.v 0) (.k (.int 0))) .none (.some (.bin .add (.ix (.v 0) (.k (.int 1))) (.k (.int 1)))))) (.fl (.lst (.cons (.ix (.v 3) (.k (.int 1))) .nil))))))
 (.cons (.setI (.v 0) (.k (.int 1)) (.bin .add (.ix (.v 0) (.k (.int 1))) (.k (.int 1))))
 (.cons (.ret (.tup (.cons (.k (.bl true)) (.cons (.call 132 (.cons (.ix (.ix (.v 0) (.k (.int 0))) (.neg (.k (.int 2)))) (.cons (.ix (.ix (.v 0) (.k (.int 0))) (.neg (.k (.int 1)))) .nil))) .nil))))
 .nil))) .nil)
 (.cons (.ret (.v 3))
 .nil))) .nil)
 (.cons (.set 4 (.bin .add (.ix (.v 0) (.k (.int 1))) (.ix (.fl (.lst (.cons (.k (.int 1)) (.cons (.neg (.k (.int 1))) .nil)))) (.b1 .int (.cmp .eq (.v 1) (.k (.str [117, 110, 100, 111])))))))
 (.cons (.ifs (.not (.chain .le .lt (.k (.int 0)) (.v 4) (.b1 .len (.ix (.v 0) (.k (.int 0)))))) (.cons (.ret (.tup (.cons (.k (.bl false)) (.cons (.k (.str [100, 101, 101, 100])) .nil))))
 .nil) .nil)
 (.cons (.unp2 5 (.v 0) (.k (.int 1)) (.tup (.cons (.ix (.v 0) (.k (.int 1))) (.cons (.v 4) .nil))))
 (.cons (.ret (.tup (.cons (.k (.bl true)) (.cons (.call 132 (.cons (.ix (.ix (.v 0) (.k (.int 0))) (.v 5)) (.cons (.ix (.ix (.v 0) (.k (.int 0))) (.v 4)) .nil))) .nil))))
 .nil)))))
def F_law61 : Ss := (.cons (.set 1 (.call 200 (.cons (.v 0) .nil)))
 (.cons (.set 2 (.call 211 (.cons (.v 1) (.cons (.k (.int 3)) (.cons (.k (.int 4)) .nil)))))
 (.cons (.set 3 (.k (.str [115, 101, 116, 32, 117, 110, 115, 101, 116, 32, 112, 108, 97, 99, 101, 32, 117, 110, 112, 108, 97, 99, 101, 32, 116, 101, 120, 116, 32, 111, 118, 101, 114, 32, 104, 97, 110, 100, 32, 102, 114, 101, 101, 32, 102, 105, 108, 108, 32, 117, 110, 100, 101, 114, 32, 109, 97, 115, 116, 101, 114, 32, 100, 114, 111, 112, 32, 97, 100, 100, 32, 116, 97, 107, 101, 32, 103, 111, 32, 99, 97, 108, 108, 32, 114, 101, 110, 97, 109, 101, 32, 104, 105, 100, 101, 32, 110, 111, 116, 101])))
 (.cons (.par [3, 4] (.tup (.cons (.fl (.cat (.fl (.split (.v 3) (.k (.str [32])))) (.fl (.lst (.cons (.k (.str [115, 116, 101, 112, 115])) (.cons (.k (.str [108, 105, 110, 107, 115])) .nil)))))) (.cons (.fl (.lst (.cons (.k (.int 5)) (.cons (.k (.int 4)) (.cons (.k (.int 3)) (.cons (.k (.int 3)) (.cons (.k (.int 4)) (.cons (.k (.int 3)) (.cons (.k (.int 5)) (.cons (.k (.int 4)) (.cons (.k (.int 4)) (.cons (.k (.int 3)) (.cons (.k (.int 2)) (.cons (.k (.int 2)) (.cons (.k (.int 3)) (.cons (.k (.int 2)) (.cons (.k (.int 3)) (.cons (.k (.int 3)) (.cons (.k (.int 3)) (.cons (.k (.int 3)) (.cons (.k (.int 3)) (.cons (.k (.int 3)) (.cons (.k (.int 3)) .nil))))))))))))))))))))))) .nil))))
 (.cons (.paro 5 6 (.mk 0 133 (.cons (.v 2) .nil)) (.lst (.cons (.tup .nil) (.cons (.k .non) (.cons (.k (.int 3)) (.cons (.k (.str [115, 101, 116])) (.cons (.tup (.cons (.tup .nil) .nil)) (.cons (.tup (.cons (.k (.str [])) .nil)) (.cons (.tup (.cons (.k .non) (.cons (.k (.str [97])) .nil))) (.cons (.fl (.lst .nil)) (.cons (.k (.dct [])) (.cons (.tup (.cons (.k (.int 1)) (.cons (.k (.int 2)) (.cons (.k (.int 3)) .nil)))) (.cons (.tup (.cons (.tup (.cons (.k (.str [115, 101, 116])) .nil)) (.cons (.k (.str [97])) .nil))) .nil)))))))))))))
 (.frz 6 (.cons (.own 6 (.cat (.v 6) (.fl (.lst (.cons (.tup (.cons (.fl (.lst (.cons (.k (.str [115, 101, 116])) .nil))) (.cons (.k (.str [97])) .nil))) (.cons (.tup (.cons (.k (.dct [])) (.cons (.k (.str [97])) (.cons (.k (.str [98])) .nil)))) .nil))))))
 (.cons (.for_ (.name 7) (.rng1 (.k (.int 21))) (.cons (.set 8 (.bin .add (.tup (.cons (.ix (.v 3) (.v 7)) .nil)) (.bin .mul (.tup (.cons (.k (.str [97])) .nil)) (.bin .sub (.ix (.v 4) (.v 7)) (.k (.int 1))))))
 (.cons (.ext 6 (.fl (.lst (.cons (.sl (.v 8) .none (.some (.neg (.k (.int 1))))) (.cons (.bin .add (.v 8) (.tup (.cons (.k (.str [97])) .nil))) (.cons (.fl (.list (.v 8))) (.cons (.bin .add (.tup (.cons (.bin .add (.ix (.v 3) (.v 7)) (.k (.str [115]))) .nil)) (.sl (.v 8) (.some (.k (.int 1))) .none)) (.cons (.bin .add (.tup (.cons (.sl (.ix (.v 3) (.v 7)) .none (.some (.neg (.k (.int 1))))) .nil)) (.sl (.v 8) (.some (.k (.int 1))) .none)) .nil))))))))
 (.cons (.ext 6 (.fl (.lst (.cons (.bin .add (.tup (.cons (.m .upper (.ix (.v 3) (.v 7)) .nil) .nil)) (.sl (.v 8) (.some (.k (.int 1))) .none)) (.cons (.bin .add (.tup (.cons (.tup (.cons (.ix (.v 3) (.v 7)) .nil)) .nil)) (.sl (.v 8) (.some (.k (.int 1))) .none)) (.cons (.bin .add (.v 8) (.v 8)) .nil))))))
 .nil))))
 (.frz 6 (.cons (.for_ (.name 9) (.rng1 (.k (.int 40))) (.cons (.set 10 (.ix (.v 6) (.call 201 (.cons (.v 1) (.cons (.b1 .len (.v 6)) .nil)))))
 (.cons (.ifs (.or (.cmp .ne (.call 236 (.cons (.v 2) (.cons (.v 10) .nil))) (.k (.str [100, 101, 101, 100]))) (.or (.cmp .ne (.call 237 (.cons (.v 5) (.cons (.v 10) .nil))) (.k (.str [100, 101, 101, 100]))) (.cmp .ne (.me 0 134 (.v 5) .nil) (.v 2)))) (.cons (.ret (.k (.bl false)))
 .nil) .nil)
 (.cons (.set 11 (.call 235 (.cons (.v 1) (.cons (.v 2) .nil))))
 (.cons (.ifs (.and (.cmp .ne (.v 11) (.v 2)) (.cmp .ne (.call 236 (.cons (.v 11) (.cons (.v 10) .nil))) (.k (.str [100, 101, 99, 107])))) (.cons (.ret (.k (.bl false)))
 .nil) .nil)
 .nil)))))
 (.cons (.ret (.k (.bl true)))
 .nil)))))))))))
def F_law81 : Ss := (.cons (.set 1 (.call 200 (.cons (.v 0) .nil)))
 (.cons (.set 2 (.tup (.cons (.tup (.cons (.tup (.cons (.k (.str [109])) (.cons (.k .non) (.cons (.tup .nil) .nil)))) .nil)) (.cons (.tup (.cons (.tup (.cons (.k (.str [97])) (.cons (.k (.str [109])) (.cons (.tup .nil) (.cons (.tup .nil) (.cons (.tup .nil) (.cons (.tup .nil) (.cons (.k (.int 0)) (.cons (.k (.str [])) .nil))))))))) .nil)) .nil))))
 (.cons (.par [3, 4, 5] (.tup (.cons (.mk 0 133 (.cons (.v 2) .nil)) (.cons (.newL (.cons (.fl (.lst (.cons (.v 2) .nil))) (.cons (.k (.int 0)) .nil))) (.cons (.bin .add (.k (.int 201)) (.call 201 (.cons (.v 1) (.cons (.k (.int 9)) .nil)))) .nil)))))
 (.cons (.for_ (.name 6) (.rng1 (.v 5)) (.cons (.set 7 (.ix (.fl (.lst (.cons (.tup (.cons (.k (.str [104, 105, 100, 101])) (.cons (.k (.str [97])) (.cons (.call 201 (.cons (.v 1) (.cons (.k (.int 2)) .nil))) .nil)))) (.cons (.tup (.cons (.k (.str [110, 111, 116, 101])) (.cons (.k (.str [97])) (.cons (.bin .add (.k (.str [110])) (.b1 .str (.v 6))) .nil)))) .nil)))) (.call 201 (.cons (.v 1) (.cons (.k (.int 2)) .nil)))))
 (.cons (.ifs (.not (.call 212 (.cons (.call 243 (.cons (.v 3) (.cons (.k (.str [100, 111])) (.cons (.v 7) .nil)))) (.cons (.call 244 (.cons (.v 4) (.cons (.k (.str [100, 111])) (.cons (.v 7) .nil)))) .nil)))) (.cons (.ret (.k (.bl false)))
 .nil) .nil)
 .nil)))
 (.cons (.for_ (.name 6) (.rng1 (.v 5)) (.cons (.ifs (.not (.call 212 (.cons (.call 243 (.cons (.v 3) (.cons (.k (.str [117, 110, 100, 111])) (.cons (.k .non) .nil)))) (.cons (.call 244 (.cons (.v 4) (.cons (.k (.str [117, 110, 100, 111])) (.cons (.k .non) .nil)))) .nil)))) (.cons (.ret (.k (.bl false)))
 .nil) .nil)
 (.cons (.ifs (.cmp .ne (.me 0 134 (.v 3) .nil) (.ix (.ix (.v 4) (.k (.int 0))) (.ix (.v 4) (.k (.int 1))))) (.cons (.ret (.k (.bl false)))
 .nil) .nil)
 .nil)))
 (.cons (.ifs (.or (.cmp .ne (.call 243 (.cons (.v 3) (.cons (.k (.str [117, 110, 100, 111])) (.cons (.k .non) .nil)))) (.tup (.cons (.k (.bl false)) (.cons (.k (.str [100, 101, 101, 100])) .nil)))) (.cmp .ne (.me 0 134 (.v 3) .nil) (.v 2))) (.cons (.ret (.k (.bl false)))
 .nil) .nil)
 (.cons (.for_ (.name 6) (.rng1 (.v 5)) (.cons (.ifs (.or (.cmp .ne (.call 243 (.cons (.v 3) (.cons (.k (.str [97, 103, 97, 105, 110])) (.cons (.k .non) .nil)))) (.tup (.cons (.k (.bl true)) (.cons (.fl (.lst .nil)) .nil)))) (.cmp .ne (.me 0 134 (.v 3) .nil) (.ix (.ix (.v 4) (.k (.int 0))) (.bin .add (.v 6) (.k (.int 1)))))) (.cons (.ret (.k (.bl false)))
 .nil) .nil)
 .nil))
 (.cons (.ret (.cmp .eq (.call 243 (.cons (.v 3) (.cons (.k (.str [97, 103, 97, 105, 110])) (.cons (.k .non) .nil)))) (.tup (.cons (.k (.bl false)) (.cons (.k (.str [100, 101, 101, 100])) .nil)))))
 .nil))))))))
def Ttbl : List (Nat × Fn) := [(1, ⟨1, 1, F_is_whole⟩), (2, ⟨3, 3, F_is_from⟩), (3, ⟨2, 1, F_is_name⟩), (5, ⟨2, 2, F_is_written⟩), (6, ⟨2, 1, F_is_lines⟩), (7, ⟨1, 1, F_is_trait⟩), (8, ⟨1, 1, F_must_be_trait⟩), (9, ⟨2, 2, F_is_worth⟩), (10, ⟨1, 1, F_own_worth⟩), (11, ⟨1, 1, F_is_setting⟩), (12, ⟨2, 1, F_rise⟩), (13, ⟨2, 1, F_are_settings⟩), (14, ⟨1, 1, F_is_place⟩), (15, ⟨2, 1, F_are_unlike⟩), (16, ⟨5, 1, F_is_master⟩), (17, ⟨3, 2, F_master_by⟩)] ++ [(18, ⟨3, 2, F_comes_round⟩), (20, ⟨2, 2, F_must_be_master⟩), (21, ⟨4, 2, F_chain_by⟩), (23, ⟨5, 2, F_places_by⟩), (25, ⟨3, 3, F_must_be_place⟩), (26, ⟨10, 4, F_settings_by⟩), (27, ⟨5, 4, F_worth_here⟩), (31, ⟨1, 1, F_is_hand⟩), (32, ⟨2, 1, F_are_hands⟩), (33, ⟨1, 1, F_is_fill⟩), (34, ⟨2, 1, F_are_fills⟩), (35, ⟨6, 1, F_is_step⟩), (36, ⟨2, 1, F_are_steps⟩), (37, ⟨1, 1, F_is_target⟩), (38, ⟨1, 1, F_is_link⟩), (39, ⟨2, 1, F_are_links⟩)] ++ [(40, ⟨9, 1, F_is_slide⟩), (42, ⟨4, 2, F_leads_astray⟩), (43, ⟨4, 1, F_fault_of_masters⟩), (44, ⟨7, 2, F_fault_of_slides⟩), (45, ⟨3, 1, F_fault_of⟩), (46, ⟨1, 1, F_must_be_deck⟩), (47, ⟨2, 2, F_place_of_slide⟩), (48, ⟨3, 2, F_slide_by⟩), (49, ⟨3, 2, F_with_master⟩), (50, ⟨3, 2, F_with_slide⟩), (51, ⟨3, 2, F_own_place⟩), (52, ⟨4, 2, F_put_own⟩), (53, ⟨5, 3, F_with_setting⟩), (54, ⟨2, 2, F_must_have_room⟩), (55, ⟨3, 3, F_looked_up⟩), (56, ⟨5, 3, F_looked_own⟩)] ++ [(57, ⟨7, 5, F_set_trait⟩), (58, ⟨7, 4, F_unset_trait⟩), (59, ⟨4, 3, F_put_place⟩), (60, ⟨6, 3, F_take_place⟩), (61, ⟨6, 4, F_set_text⟩), (62, ⟨5, 3, F_lay_under⟩), (63, ⟨1, 1, F_sorted_hands⟩), (64, ⟨8, 5, F_by_hand⟩), (65, ⟨7, 4, F_let_go⟩), (66, ⟨7, 4, F_fill_place⟩), (67, ⟨4, 3, F_lay_slide⟩), (68, ⟨4, 2, F_put_master⟩), (69, ⟨6, 2, F_drop_master⟩), (70, ⟨2, 2, F_must_be_at⟩), (71, ⟨2, 1, F_names_of⟩), (72, ⟨5, 3, F_add_slide⟩)] ++ [(73, ⟨3, 2, F_without⟩), (74, ⟨5, 2, F_take_slide⟩), (75, ⟨5, 3, F_go_slide⟩), (76, ⟨4, 2, F_renamed_link⟩), (77, ⟨3, 3, F_must_be_free⟩), (78, ⟨8, 3, F_call_slide⟩), (79, ⟨9, 3, F_rename_master⟩), (80, ⟨1, 1, F_must_be_worth⟩), (81, ⟨4, 3, F_hide_slide⟩), (82, ⟨4, 3, F_note_slide⟩), (83, ⟨4, 3, F_step_slide⟩), (84, ⟨5, 3, F_link_slide⟩), (85, ⟨3, 2, F_done⟩), (86, ⟨2, 2, F_done_deed⟩), (105, ⟨7, 4, F_worth_on⟩), (129, ⟨5, 4, F_worths_of⟩)] ++ [(130, ⟨12, 4, F_touched_slide⟩), (131, ⟨5, 2, F_touched⟩), (132, ⟨2, 2, F_touched_by⟩), (133, ⟨2, 2, F_Keeper___init__⟩), (134, ⟨1, 1, F_Keeper_deck⟩), (135, ⟨3, 2, F_Keeper_come_to⟩), (136, ⟨3, 2, F_Keeper_do⟩), (137, ⟨1, 1, F_Keeper_undo⟩), (138, ⟨1, 1, F_Keeper_again⟩), (200, ⟨1, 1, F__law_pen⟩), (201, ⟨6, 2, F__law_draw⟩), (202, ⟨8, 2, F__law_names⟩), (203, ⟨4, 1, F__law_line⟩), (204, ⟨3, 1, F__law_lines⟩), (205, ⟨2, 2, F__law_worth⟩), (206, ⟨0, 0, F__law_traits⟩)] ++ [(207, ⟨4, 2, F__law_place⟩), (208, ⟨9, 3, F__law_masters⟩), (209, ⟨8, 3, F__law_steps⟩), (210, ⟨14, 5, F__law_slide⟩), (211, ⟨7, 3, F__law_deck⟩), (212, ⟨4, 2, F__law_same⟩), (217, ⟨3, 2, F__law_did⟩), (234, ⟨1, 1, F__wall⟩), (235, ⟨5, 2, F__law_fault_free⟩), (236, ⟨3, 2, F__law_done⟩), (237, ⟨3, 2, F__law_kept⟩), (238, ⟨1, 1, F_Keeper_undo_238⟩), (239, ⟨1, 1, F_Keeper_again_239⟩), (243, ⟨4, 3, F__law_kept_by⟩), (244, ⟨6, 3, F__law_stack_due⟩), (443, ⟨12, 1, F_law61⟩)] ++ [(463, ⟨8, 1, F_law81⟩)]
def T (f : Nat) : Option Fn := Ttbl.lookup f
abbrev n_is_whole : Nat := 1
theorem T_is_whole : T 1 = some ⟨1, 1, F_is_whole⟩ := by rfl
abbrev n_is_from : Nat := 2
theorem T_is_from : T 2 = some ⟨3, 3, F_is_from⟩ := by rfl
abbrev n_is_name : Nat := 3
theorem T_is_name : T 3 = some ⟨2, 1, F_is_name⟩ := by rfl
abbrev n_is_written : Nat := 5
theorem T_is_written : T 5 = some ⟨2, 2, F_is_written⟩ := by rfl
abbrev n_is_lines : Nat := 6
theorem T_is_lines : T 6 = some ⟨2, 1, F_is_lines⟩ := by rfl
abbrev n_is_trait : Nat := 7
theorem T_is_trait : T 7 = some ⟨1, 1, F_is_trait⟩ := by rfl
abbrev n_must_be_trait : Nat := 8
theorem T_must_be_trait : T 8 = some ⟨1, 1, F_must_be_trait⟩ := by rfl
abbrev n_is_worth : Nat := 9
theorem T_is_worth : T 9 = some ⟨2, 2, F_is_worth⟩ := by rfl
abbrev n_own_worth : Nat := 10
theorem T_own_worth : T 10 = some ⟨1, 1, F_own_worth⟩ := by rfl
abbrev n_is_setting : Nat := 11
theorem T_is_setting : T 11 = some ⟨1, 1, F_is_setting⟩ := by rfl
abbrev n_rise : Nat := 12
theorem T_rise : T 12 = some ⟨2, 1, F_rise⟩ := by rfl
abbrev n_are_settings : Nat := 13
theorem T_are_settings : T 13 = some ⟨2, 1, F_are_settings⟩ := by rfl
abbrev n_is_place : Nat := 14
theorem T_is_place : T 14 = some ⟨1, 1, F_is_place⟩ := by rfl
abbrev n_are_unlike : Nat := 15
theorem T_are_unlike : T 15 = some ⟨2, 1, F_are_unlike⟩ := by rfl
abbrev n_is_master : Nat := 16
theorem T_is_master : T 16 = some ⟨5, 1, F_is_master⟩ := by rfl
abbrev n_master_by : Nat := 17
theorem T_master_by : T 17 = some ⟨3, 2, F_master_by⟩ := by rfl
abbrev n_comes_round : Nat := 18
theorem T_comes_round : T 18 = some ⟨3, 2, F_comes_round⟩ := by rfl
abbrev n_must_be_master : Nat := 20
theorem T_must_be_master : T 20 = some ⟨2, 2, F_must_be_master⟩ := by rfl
abbrev n_chain_by : Nat := 21
theorem T_chain_by : T 21 = some ⟨4, 2, F_chain_by⟩ := by rfl
abbrev n_places_by : Nat := 23
theorem T_places_by : T 23 = some ⟨5, 2, F_places_by⟩ := by rfl
abbrev n_must_be_place : Nat := 25
theorem T_must_be_place : T 25 = some ⟨3, 3, F_must_be_place⟩ := by rfl
abbrev n_settings_by : Nat := 26
theorem T_settings_by : T 26 = some ⟨10, 4, F_settings_by⟩ := by rfl
abbrev n_worth_here : Nat := 27
theorem T_worth_here : T 27 = some ⟨5, 4, F_worth_here⟩ := by rfl
abbrev n_is_hand : Nat := 31
theorem T_is_hand : T 31 = some ⟨1, 1, F_is_hand⟩ := by rfl
abbrev n_are_hands : Nat := 32
theorem T_are_hands : T 32 = some ⟨2, 1, F_are_hands⟩ := by rfl
abbrev n_is_fill : Nat := 33
theorem T_is_fill : T 33 = some ⟨1, 1, F_is_fill⟩ := by rfl
abbrev n_are_fills : Nat := 34
theorem T_are_fills : T 34 = some ⟨2, 1, F_are_fills⟩ := by rfl
abbrev n_is_step : Nat := 35
theorem T_is_step : T 35 = some ⟨6, 1, F_is_step⟩ := by rfl
abbrev n_are_steps : Nat := 36
theorem T_are_steps : T 36 = some ⟨2, 1, F_are_steps⟩ := by rfl
abbrev n_is_target : Nat := 37
theorem T_is_target : T 37 = some ⟨1, 1, F_is_target⟩ := by rfl
abbrev n_is_link : Nat := 38
theorem T_is_link : T 38 = some ⟨1, 1, F_is_link⟩ := by rfl
abbrev n_are_links : Nat := 39
theorem T_are_links : T 39 = some ⟨2, 1, F_are_links⟩ := by rfl
abbrev n_is_slide : Nat := 40
theorem T_is_slide : T 40 = some ⟨9, 1, F_is_slide⟩ := by rfl
abbrev n_leads_astray : Nat := 42
theorem T_leads_astray : T 42 = some ⟨4, 2, F_leads_astray⟩ := by rfl
abbrev n_fault_of_masters : Nat := 43
theorem T_fault_of_masters : T 43 = some ⟨4, 1, F_fault_of_masters⟩ := by rfl
abbrev n_fault_of_slides : Nat := 44
theorem T_fault_of_slides : T 44 = some ⟨7, 2, F_fault_of_slides⟩ := by rfl
abbrev n_fault_of : Nat := 45
theorem T_fault_of : T 45 = some ⟨3, 1, F_fault_of⟩ := by rfl
abbrev n_must_be_deck : Nat := 46
theorem T_must_be_deck : T 46 = some ⟨1, 1, F_must_be_deck⟩ := by rfl
abbrev n_place_of_slide : Nat := 47
theorem T_place_of_slide : T 47 = some ⟨2, 2, F_place_of_slide⟩ := by rfl
abbrev n_slide_by : Nat := 48
theorem T_slide_by : T 48 = some ⟨3, 2, F_slide_by⟩ := by rfl
abbrev n_with_master : Nat := 49
theorem T_with_master : T 49 = some ⟨3, 2, F_with_master⟩ := by rfl
abbrev n_with_slide : Nat := 50
theorem T_with_slide : T 50 = some ⟨3, 2, F_with_slide⟩ := by rfl
abbrev n_own_place : Nat := 51
theorem T_own_place : T 51 = some ⟨3, 2, F_own_place⟩ := by rfl
abbrev n_put_own : Nat := 52
theorem T_put_own : T 52 = some ⟨4, 2, F_put_own⟩ := by rfl
abbrev n_with_setting : Nat := 53
theorem T_with_setting : T 53 = some ⟨5, 3, F_with_setting⟩ := by rfl
abbrev n_must_have_room : Nat := 54
theorem T_must_have_room : T 54 = some ⟨2, 2, F_must_have_room⟩ := by rfl
abbrev n_looked_up : Nat := 55
theorem T_looked_up : T 55 = some ⟨3, 3, F_looked_up⟩ := by rfl
abbrev n_looked_own : Nat := 56
theorem T_looked_own : T 56 = some ⟨5, 3, F_looked_own⟩ := by rfl
abbrev n_set_trait : Nat := 57
theorem T_set_trait : T 57 = some ⟨7, 5, F_set_trait⟩ := by rfl
abbrev n_unset_trait : Nat := 58
theorem T_unset_trait : T 58 = some ⟨7, 4, F_unset_trait⟩ := by rfl
abbrev n_put_place : Nat := 59
theorem T_put_place : T 59 = some ⟨4, 3, F_put_place⟩ := by rfl
abbrev n_take_place : Nat := 60
theorem T_take_place : T 60 = some ⟨6, 3, F_take_place⟩ := by rfl
abbrev n_set_text : Nat := 61
theorem T_set_text : T 61 = some ⟨6, 4, F_set_text⟩ := by rfl
abbrev n_lay_under : Nat := 62
theorem T_lay_under : T 62 = some ⟨5, 3, F_lay_under⟩ := by rfl
abbrev n_sorted_hands : Nat := 63
theorem T_sorted_hands : T 63 = some ⟨1, 1, F_sorted_hands⟩ := by rfl
abbrev n_by_hand : Nat := 64
theorem T_by_hand : T 64 = some ⟨8, 5, F_by_hand⟩ := by rfl
abbrev n_let_go : Nat := 65
theorem T_let_go : T 65 = some ⟨7, 4, F_let_go⟩ := by rfl
abbrev n_fill_place : Nat := 66
theorem T_fill_place : T 66 = some ⟨7, 4, F_fill_place⟩ := by rfl
abbrev n_lay_slide : Nat := 67
theorem T_lay_slide : T 67 = some ⟨4, 3, F_lay_slide⟩ := by rfl
abbrev n_put_master : Nat := 68
theorem T_put_master : T 68 = some ⟨4, 2, F_put_master⟩ := by rfl
abbrev n_drop_master : Nat := 69
theorem T_drop_master : T 69 = some ⟨6, 2, F_drop_master⟩ := by rfl
abbrev n_must_be_at : Nat := 70
theorem T_must_be_at : T 70 = some ⟨2, 2, F_must_be_at⟩ := by rfl
abbrev n_names_of : Nat := 71
theorem T_names_of : T 71 = some ⟨2, 1, F_names_of⟩ := by rfl
abbrev n_add_slide : Nat := 72
theorem T_add_slide : T 72 = some ⟨5, 3, F_add_slide⟩ := by rfl
abbrev n_without : Nat := 73
theorem T_without : T 73 = some ⟨3, 2, F_without⟩ := by rfl
abbrev n_take_slide : Nat := 74
theorem T_take_slide : T 74 = some ⟨5, 2, F_take_slide⟩ := by rfl
abbrev n_go_slide : Nat := 75
theorem T_go_slide : T 75 = some ⟨5, 3, F_go_slide⟩ := by rfl
abbrev n_renamed_link : Nat := 76
theorem T_renamed_link : T 76 = some ⟨4, 2, F_renamed_link⟩ := by rfl
abbrev n_must_be_free : Nat := 77
theorem T_must_be_free : T 77 = some ⟨3, 3, F_must_be_free⟩ := by rfl
abbrev n_call_slide : Nat := 78
theorem T_call_slide : T 78 = some ⟨8, 3, F_call_slide⟩ := by rfl
abbrev n_rename_master : Nat := 79
theorem T_rename_master : T 79 = some ⟨9, 3, F_rename_master⟩ := by rfl
abbrev n_must_be_worth : Nat := 80
theorem T_must_be_worth : T 80 = some ⟨1, 1, F_must_be_worth⟩ := by rfl
abbrev n_hide_slide : Nat := 81
theorem T_hide_slide : T 81 = some ⟨4, 3, F_hide_slide⟩ := by rfl
abbrev n_note_slide : Nat := 82
theorem T_note_slide : T 82 = some ⟨4, 3, F_note_slide⟩ := by rfl
abbrev n_step_slide : Nat := 83
theorem T_step_slide : T 83 = some ⟨4, 3, F_step_slide⟩ := by rfl
abbrev n_link_slide : Nat := 84
theorem T_link_slide : T 84 = some ⟨5, 3, F_link_slide⟩ := by rfl
abbrev n_done : Nat := 85
theorem T_done : T 85 = some ⟨3, 2, F_done⟩ := by rfl
abbrev n_done_deed : Nat := 86
theorem T_done_deed : T 86 = some ⟨2, 2, F_done_deed⟩ := by rfl
abbrev n_worth_on : Nat := 105
theorem T_worth_on : T 105 = some ⟨7, 4, F_worth_on⟩ := by rfl
abbrev n_worths_of : Nat := 129
theorem T_worths_of : T 129 = some ⟨5, 4, F_worths_of⟩ := by rfl
abbrev n_touched_slide : Nat := 130
theorem T_touched_slide : T 130 = some ⟨12, 4, F_touched_slide⟩ := by rfl
abbrev n_touched : Nat := 131
theorem T_touched : T 131 = some ⟨5, 2, F_touched⟩ := by rfl
abbrev n_touched_by : Nat := 132
theorem T_touched_by : T 132 = some ⟨2, 2, F_touched_by⟩ := by rfl
abbrev n_Keeper___init__ : Nat := 133
theorem T_Keeper___init__ : T 133 = some ⟨2, 2, F_Keeper___init__⟩ := by rfl
abbrev n_Keeper_deck : Nat := 134
theorem T_Keeper_deck : T 134 = some ⟨1, 1, F_Keeper_deck⟩ := by rfl
abbrev n_Keeper_come_to : Nat := 135
theorem T_Keeper_come_to : T 135 = some ⟨3, 2, F_Keeper_come_to⟩ := by rfl
abbrev n_Keeper_do : Nat := 136
theorem T_Keeper_do : T 136 = some ⟨3, 2, F_Keeper_do⟩ := by rfl
abbrev n_Keeper_undo : Nat := 137
theorem T_Keeper_undo : T 137 = some ⟨1, 1, F_Keeper_undo⟩ := by rfl
abbrev n_Keeper_again : Nat := 138
theorem T_Keeper_again : T 138 = some ⟨1, 1, F_Keeper_again⟩ := by rfl
abbrev n__law_pen : Nat := 200
theorem T__law_pen : T 200 = some ⟨1, 1, F__law_pen⟩ := by rfl
abbrev n__law_draw : Nat := 201
theorem T__law_draw : T 201 = some ⟨6, 2, F__law_draw⟩ := by rfl
abbrev n__law_names : Nat := 202
theorem T__law_names : T 202 = some ⟨8, 2, F__law_names⟩ := by rfl
abbrev n__law_line : Nat := 203
theorem T__law_line : T 203 = some ⟨4, 1, F__law_line⟩ := by rfl
abbrev n__law_lines : Nat := 204
theorem T__law_lines : T 204 = some ⟨3, 1, F__law_lines⟩ := by rfl
abbrev n__law_worth : Nat := 205
theorem T__law_worth : T 205 = some ⟨2, 2, F__law_worth⟩ := by rfl
abbrev n__law_traits : Nat := 206
theorem T__law_traits : T 206 = some ⟨0, 0, F__law_traits⟩ := by rfl
abbrev n__law_place : Nat := 207
theorem T__law_place : T 207 = some ⟨4, 2, F__law_place⟩ := by rfl
abbrev n__law_masters : Nat := 208
theorem T__law_masters : T 208 = some ⟨9, 3, F__law_masters⟩ := by rfl
abbrev n__law_steps : Nat := 209
theorem T__law_steps : T 209 = some ⟨8, 3, F__law_steps⟩ := by rfl
abbrev n__law_slide : Nat := 210
theorem T__law_slide : T 210 = some ⟨14, 5, F__law_slide⟩ := by rfl
abbrev n__law_deck : Nat := 211
theorem T__law_deck : T 211 = some ⟨7, 3, F__law_deck⟩ := by rfl
abbrev n__law_same : Nat := 212
theorem T__law_same : T 212 = some ⟨4, 2, F__law_same⟩ := by rfl
abbrev n__law_did : Nat := 217
theorem T__law_did : T 217 = some ⟨3, 2, F__law_did⟩ := by rfl
abbrev n__wall : Nat := 234
theorem T__wall : T 234 = some ⟨1, 1, F__wall⟩ := by rfl
abbrev n__law_fault_free : Nat := 235
theorem T__law_fault_free : T 235 = some ⟨5, 2, F__law_fault_free⟩ := by rfl
abbrev n__law_done : Nat := 236
theorem T__law_done : T 236 = some ⟨3, 2, F__law_done⟩ := by rfl
abbrev n__law_kept : Nat := 237
theorem T__law_kept : T 237 = some ⟨3, 2, F__law_kept⟩ := by rfl
abbrev n_Keeper_undo_238 : Nat := 238
theorem T_Keeper_undo_238 : T 238 = some ⟨1, 1, F_Keeper_undo_238⟩ := by rfl
abbrev n_Keeper_again_239 : Nat := 239
theorem T_Keeper_again_239 : T 239 = some ⟨1, 1, F_Keeper_again_239⟩ := by rfl
abbrev n__law_kept_by : Nat := 243
theorem T__law_kept_by : T 243 = some ⟨4, 3, F__law_kept_by⟩ := by rfl
abbrev n__law_stack_due : Nat := 244
theorem T__law_stack_due : T 244 = some ⟨6, 3, F__law_stack_due⟩ := by rfl
abbrev n_law61 : Nat := 443
theorem T_law61 : T 443 = some ⟨12, 1, F_law61⟩ := by rfl
abbrev n_law81 : Nat := 463
theorem T_law81 : T 463 = some ⟨8, 1, F_law81⟩ := by rfl
def Gtbl : List (Nat × D) := [(0, (.tup [(.str [108, 101, 102, 116]), (.str [116, 111, 112]), (.str [119, 105, 100, 101]), (.str [104, 105, 103, 104]), (.str [115, 105, 122, 101]), (.str [105, 110, 107])])), (1, (.tup [(.int 0), (.int 0), (.int 40), (.int 10), (.int 1), (.str [112, 108, 97, 105, 110])])), (2, (.dct [(.str [108, 101, 102, 116], (.tup [(.int (-999)), (.int 999)])), (.str [116, 111, 112], (.tup [(.int (-999)), (.int 999)])), (.str [119, 105, 100, 101], (.tup [(.int 1), (.int 999)])), (.str [104, 105, 103, 104], (.tup [(.int 1), (.int 999)])), (.str [115, 105, 122, 101], (.tup [(.int 1), (.int 99)]))])), (3, (.str [97, 98, 99, 100, 101, 102, 103, 104, 105, 106, 107, 108, 109, 110, 111, 112, 113, 114, 115, 116, 117, 118, 119, 120, 121, 122])), (4, (.str [48, 49, 50, 51, 52, 53, 54, 55, 56, 57])), (5, (.str [32, 33, 34, 35, 36, 38, 39, 40, 41, 42, 43, 44, 45, 46, 47, 58, 59, 60, 61, 62, 63, 64, 91, 93, 94, 95, 96, 123, 124, 125, 126, 48, 49, 50, 51, 52, 53, 54, 55, 56, 57, 97, 98, 99, 100, 101, 102, 103, 104, 105, 106, 107, 108, 109, 110, 111, 112, 113, 114, 115, 116, 117, 118, 119, 120, 121, 122, 65, 66, 67, 68, 69, 70, 71, 72, 73, 74, 75, 76, 77, 78, 79, 80, 81, 82, 83, 84, 85, 86, 87, 88, 89, 90])), (6, (.int 8)), (7, (.int 60))] ++ [(8, (.int 12)), (9, (.int 12)), (10, (.int 8)), (11, (.int 40)), (12, (.int 48)), (13, (.int 12)), (14, (.int 24)), (15, (.int 200))] ++ [(16, (.tup [(.str [112, 114, 101, 115, 115]), (.str [119, 105, 116, 104]), (.str [97, 102, 116, 101, 114])])), (17, (.tup [(.str [99, 111, 109, 101]), (.str [103, 111]), (.str [100, 105, 109])])), (18, (.dct [(.str [109, 97, 115, 116, 101, 114], (.fn 68)), (.str [100, 114, 111, 112], (.fn 69)), (.str [116, 97, 107, 101], (.fn 74))])), (19, (.dct [(.str [112, 108, 97, 99, 101], (.fn 59)), (.str [117, 110, 112, 108, 97, 99, 101], (.fn 60)), (.str [111, 118, 101, 114], (.fn 62)), (.str [117, 110, 100, 101, 114], (.fn 67)), (.str [97, 100, 100], (.fn 72)), (.str [103, 111], (.fn 75)), (.str [99, 97, 108, 108], (.fn 78)), (.str [114, 101, 110, 97, 109, 101], (.fn 79)), (.str [104, 105, 100, 101], (.fn 81)), (.str [110, 111, 116, 101], (.fn 82)), (.str [115, 116, 101, 112, 115], (.fn 83)), (.str [108, 105, 110, 107, 115], (.fn 84))])), (20, (.dct [(.str [117, 110, 115, 101, 116], (.fn 58)), (.str [116, 101, 120, 116], (.fn 61)), (.str [102, 114, 101, 101], (.fn 65)), (.str [102, 105, 108, 108], (.fn 66))])), (21, (.dct [(.str [115, 101, 116], (.fn 57)), (.str [104, 97, 110, 100], (.fn 64))])), (24, (.int 12)), (1000, (.str [100, 101, 99, 107]))] ++ [(1001, (.str [100, 101, 101, 100])), (1002, (.str [108, 105, 110, 107])), (1003, (.str [109, 97, 115, 116, 101, 114])), (1004, (.str [110, 97, 109, 101])), (1005, (.str [110, 117, 109, 98, 101, 114])), (1006, (.str [112, 108, 97, 99, 101])), (1007, (.str [112, 114, 101, 115, 115])), (1008, (.str [114, 111, 111, 109]))] ++ [(1009, (.str [114, 111, 119])), (1010, (.str [115, 101, 116, 116, 105, 110, 103])), (1011, (.str [115, 104, 111, 119])), (1012, (.str [115, 108, 105, 100, 101])), (1013, (.str [115, 116, 101, 112, 115])), (1015, (.str [116, 105, 109, 101])), (1016, (.str [116, 114, 97, 105, 116])), (1017, (.str [119, 111, 114, 100]))] ++ [(1018, (.str [119, 111, 114, 116, 104])), (1019, (.str [114, 105, 110, 103])), (1020, (.str [116, 97, 107, 101, 110])), (1021, (.str [109, 97, 110, 121])), (1022, (.str [117, 115, 101, 100]))]
def G (j : Nat) : D := (Gtbl.lookup j).getD .non
theorem G_TRAITS : G 0 = (.tup [(.str [108, 101, 102, 116]), (.str [116, 111, 112]), (.str [119, 105, 100, 101]), (.str [104, 105, 103, 104]), (.str [115, 105, 122, 101]), (.str [105, 110, 107])]) := by rfl
theorem G_OWN : G 1 = (.tup [(.int 0), (.int 0), (.int 40), (.int 10), (.int 1), (.str [112, 108, 97, 105, 110])]) := by rfl
theorem G_BOUNDS : G 2 = (.dct [(.str [108, 101, 102, 116], (.tup [(.int (-999)), (.int 999)])), (.str [116, 111, 112], (.tup [(.int (-999)), (.int 999)])), (.str [119, 105, 100, 101], (.tup [(.int 1), (.int 999)])), (.str [104, 105, 103, 104], (.tup [(.int 1), (.int 999)])), (.str [115, 105, 122, 101], (.tup [(.int 1), (.int 99)]))]) := by rfl
theorem G_LETTERS : G 3 = (.str [97, 98, 99, 100, 101, 102, 103, 104, 105, 106, 107, 108, 109, 110, 111, 112, 113, 114, 115, 116, 117, 118, 119, 120, 121, 122]) := by rfl
theorem G_FIGURES : G 4 = (.str [48, 49, 50, 51, 52, 53, 54, 55, 56, 57]) := by rfl
theorem G_SIGNS : G 5 = (.str [32, 33, 34, 35, 36, 38, 39, 40, 41, 42, 43, 44, 45, 46, 47, 58, 59, 60, 61, 62, 63, 64, 91, 93, 94, 95, 96, 123, 124, 125, 126, 48, 49, 50, 51, 52, 53, 54, 55, 56, 57, 97, 98, 99, 100, 101, 102, 103, 104, 105, 106, 107, 108, 109, 110, 111, 112, 113, 114, 115, 116, 117, 118, 119, 120, 121, 122, 65, 66, 67, 68, 69, 70, 71, 72, 73, 74, 75, 76, 77, 78, 79, 80, 81, 82, 83, 84, 85, 86, 87, 88, 89, 90]) := by rfl
theorem G_LONGEST_NAME : G 6 = (.int 8) := by rfl
theorem G_LONGEST_LINE : G 7 = (.int 60) := by rfl
theorem G_MOST_LINES : G 8 = (.int 12) := by rfl
theorem G_MOST_MASTERS_masters : G 9 = (.int 12) := by rfl
theorem G_MOST_PLACES : G 10 = (.int 8) := by rfl
theorem G_MOST_SLIDES : G 11 = (.int 40) := by rfl
theorem G_MOST_HANDS : G 12 = (.int 48) := by rfl
theorem G_MOST_FILLS : G 13 = (.int 12) := by rfl
theorem G_MOST_STEPS : G 14 = (.int 24) := by rfl
theorem G_MOST_NOTES : G 15 = (.int 200) := by rfl
theorem G_KINDS : G 16 = (.tup [(.str [112, 114, 101, 115, 115]), (.str [119, 105, 116, 104]), (.str [97, 102, 116, 101, 114])]) := by rfl
theorem G_DEEDS : G 17 = (.tup [(.str [99, 111, 109, 101]), (.str [103, 111]), (.str [100, 105, 109])]) := by rfl
theorem G_BY_ONE : G 18 = (.dct [(.str [109, 97, 115, 116, 101, 114], (.fn 68)), (.str [100, 114, 111, 112], (.fn 69)), (.str [116, 97, 107, 101], (.fn 74))]) := by rfl
theorem G_BY_TWO : G 19 = (.dct [(.str [112, 108, 97, 99, 101], (.fn 59)), (.str [117, 110, 112, 108, 97, 99, 101], (.fn 60)), (.str [111, 118, 101, 114], (.fn 62)), (.str [117, 110, 100, 101, 114], (.fn 67)), (.str [97, 100, 100], (.fn 72)), (.str [103, 111], (.fn 75)), (.str [99, 97, 108, 108], (.fn 78)), (.str [114, 101, 110, 97, 109, 101], (.fn 79)), (.str [104, 105, 100, 101], (.fn 81)), (.str [110, 111, 116, 101], (.fn 82)), (.str [115, 116, 101, 112, 115], (.fn 83)), (.str [108, 105, 110, 107, 115], (.fn 84))]) := by rfl
theorem G_BY_THREE : G 20 = (.dct [(.str [117, 110, 115, 101, 116], (.fn 58)), (.str [116, 101, 120, 116], (.fn 61)), (.str [102, 114, 101, 101], (.fn 65)), (.str [102, 105, 108, 108], (.fn 66))]) := by rfl
theorem G_BY_FOUR : G 21 = (.dct [(.str [115, 101, 116], (.fn 57)), (.str [104, 97, 110, 100], (.fn 64))]) := by rfl
theorem G_MOST_MASTERS_decks : G 24 = (.int 12) := by rfl
theorem G_w_NoDeck : G 1000 = (.str [100, 101, 99, 107]) := by rfl
theorem G_w_NoDeed : G 1001 = (.str [100, 101, 101, 100]) := by rfl
theorem G_w_NoLink : G 1002 = (.str [108, 105, 110, 107]) := by rfl
theorem G_w_NoMaster : G 1003 = (.str [109, 97, 115, 116, 101, 114]) := by rfl
theorem G_w_NoName : G 1004 = (.str [110, 97, 109, 101]) := by rfl
theorem G_w_NoNumber : G 1005 = (.str [110, 117, 109, 98, 101, 114]) := by rfl
theorem G_w_NoPlace : G 1006 = (.str [112, 108, 97, 99, 101]) := by rfl
theorem G_w_NoPress : G 1007 = (.str [112, 114, 101, 115, 115]) := by rfl
theorem G_w_NoRoom : G 1008 = (.str [114, 111, 111, 109]) := by rfl
theorem G_w_NoRow : G 1009 = (.str [114, 111, 119]) := by rfl
theorem G_w_NoSetting : G 1010 = (.str [115, 101, 116, 116, 105, 110, 103]) := by rfl
theorem G_w_NoShow : G 1011 = (.str [115, 104, 111, 119]) := by rfl
theorem G_w_NoSlide : G 1012 = (.str [115, 108, 105, 100, 101]) := by rfl
theorem G_w_NoSteps : G 1013 = (.str [115, 116, 101, 112, 115]) := by rfl
theorem G_w_NoTime : G 1015 = (.str [116, 105, 109, 101]) := by rfl
theorem G_w_NoTrait : G 1016 = (.str [116, 114, 97, 105, 116]) := by rfl
theorem G_w_NoWord : G 1017 = (.str [119, 111, 114, 100]) := by rfl
theorem G_w_NoWorth : G 1018 = (.str [119, 111, 114, 116, 104]) := by rfl
theorem G_w_Ring : G 1019 = (.str [114, 105, 110, 103]) := by rfl
theorem G_w_Taken : G 1020 = (.str [116, 97, 107, 101, 110]) := by rfl
theorem G_w_TooMany : G 1021 = (.str [109, 97, 110, 121]) := by rfl
theorem G_w_Used : G 1022 = (.str [117, 115, 101, 100]) := by rfl
end Ms

set_option Elab.async false
set_option linter.all false
set_option autoImplicit false
set_option maxRecDepth 100000
set_option maxHeartbeats 2000000
namespace Ms.L61
open PySem PySem.Spec PyProof.Rows L2 Ms
abbrev pr : Program := PySem.Challenge.pw_mastershow_k61_what_is_no_deed
def top (i : Nat) : Stmt := pr.main.body.getD i (.Pass ⟨0, 0, 0, 0⟩)
def meth (i j : Nat) : Stmt := (C8.clsBody (top i)).getD j (.Pass ⟨0, 0, 0, 0⟩)
def d0 : DR := ⟨234, top 0, ("_wall", none), "_wall", "_wall", (["k"] : List PySem.Str), false⟩
def d1 : DR := ⟨1, top 36, ("is_whole", none), "is_whole", "is_whole", (["thing"] : List PySem.Str), false⟩
def d2 : DR := ⟨2, top 37, ("is_from", none), "is_from", "is_from", (["thing", "least", "most"] : List PySem.Str), false⟩
def d3 : DR := ⟨3, top 38, ("is_name", none), "is_name", "is_name", (["thing", "sign"] : List PySem.Str), false⟩
def d4 : DR := ⟨5, top 39, ("is_written", none), "is_written", "is_written", (["thing", "most"] : List PySem.Str), false⟩
def d5 : DR := ⟨6, top 40, ("is_lines", none), "is_lines", "is_lines", (["thing", "line"] : List PySem.Str), false⟩
def d6 : DR := ⟨7, top 41, ("is_trait", none), "is_trait", "is_trait", (["thing"] : List PySem.Str), false⟩
def d7 : DR := ⟨8, top 42, ("must_be_trait", none), "must_be_trait", "must_be_trait", (["thing"] : List PySem.Str), false⟩
def d8 : DR := ⟨9, top 43, ("is_worth", none), "is_worth", "is_worth", (["trait", "thing"] : List PySem.Str), false⟩
def d9 : DR := ⟨10, top 44, ("own_worth", none), "own_worth", "own_worth", (["trait"] : List PySem.Str), false⟩
def d10 : DR := ⟨11, top 48, ("is_setting", none), "is_setting", "is_setting", (["thing"] : List PySem.Str), false⟩
def d11 : DR := ⟨12, top 49, ("rise", none), "rise", "rise", (["numbers", "k"] : List PySem.Str), false⟩
def d12 : DR := ⟨13, top 50, ("are_settings", none), "are_settings", "are_settings", (["thing", "one"] : List PySem.Str), false⟩
def d13 : DR := ⟨14, top 51, ("is_place", none), "is_place", "is_place", (["thing"] : List PySem.Str), false⟩
def d14 : DR := ⟨15, top 52, ("are_unlike", none), "are_unlike", "are_unlike", (["names", "k"] : List PySem.Str), false⟩
def d15 : DR := ⟨16, top 53, ("is_master", none), "is_master", "is_master", (["thing", "name", "over", "own", "place"] : List PySem.Str), false⟩
def d16 : DR := ⟨17, top 54, ("master_by", none), "master_by", "master_by", (["masters", "name", "master"] : List PySem.Str), false⟩
def d17 : DR := ⟨18, top 55, ("comes_round", none), "comes_round", "comes_round", (["masters", "name", "met"] : List PySem.Str), false⟩
def d18 : DR := ⟨20, top 56, ("must_be_master", none), "must_be_master", "must_be_master", (["masters", "name"] : List PySem.Str), false⟩
def d19 : DR := ⟨21, top 57, ("chain_by", none), "chain_by", "chain_by", (["masters", "name", "found", "master"] : List PySem.Str), false⟩
def d20 : DR := ⟨23, top 58, ("places_by", none), "places_by", "places_by", (["masters", "name", "found", "master", "place"] : List PySem.Str), false⟩
def d21 : DR := ⟨25, top 59, ("must_be_place", none), "must_be_place", "must_be_place", (["masters", "name", "place"] : List PySem.Str), false⟩
def d22 : DR := ⟨26, top 60, ("settings_by", none), "settings_by", "settings_by", (["masters", "name", "place", "trait", "master", "one", "settings", "lines", "told", "worth"] : List PySem.Str), false⟩
def d23 : DR := ⟨27, top 61, ("worth_here", none), "worth_here", "worth_here", (["masters", "name", "place", "trait", "found"] : List PySem.Str), false⟩
def d24 : DR := ⟨31, top 71, ("is_hand", none), "is_hand", "is_hand", (["thing"] : List PySem.Str), false⟩
def d25 : DR := ⟨32, top 72, ("are_hands", none), "are_hands", "are_hands", (["thing", "one"] : List PySem.Str), false⟩
def d26 : DR := ⟨33, top 73, ("is_fill", none), "is_fill", "is_fill", (["thing"] : List PySem.Str), false⟩
def d27 : DR := ⟨34, top 74, ("are_fills", none), "are_fills", "are_fills", (["thing", "one"] : List PySem.Str), false⟩
def d28 : DR := ⟨35, top 75, ("is_step", none), "is_step", "is_step", (["thing", "kind", "wait", "deed", "place", "line"] : List PySem.Str), false⟩
def d29 : DR := ⟨36, top 76, ("are_steps", none), "are_steps", "are_steps", (["thing", "one"] : List PySem.Str), false⟩
def d30 : DR := ⟨37, top 77, ("is_target", none), "is_target", "is_target", (["thing"] : List PySem.Str), false⟩
def d31 : DR := ⟨38, top 78, ("is_link", none), "is_link", "is_link", (["thing"] : List PySem.Str), false⟩
def d32 : DR := ⟨39, top 79, ("are_links", none), "are_links", "are_links", (["thing", "one"] : List PySem.Str), false⟩
def d33 : DR := ⟨40, top 80, ("is_slide", none), "is_slide", "is_slide", (["thing", "name", "master", "hands", "fills", "steps", "links", "hidden", "notes"] : List PySem.Str), false⟩
def d34 : DR := ⟨42, top 82, ("leads_astray", none), "leads_astray", "leads_astray", (["slide", "names", "place", "target"] : List PySem.Str), false⟩
def d35 : DR := ⟨43, top 83, ("fault_of_masters", none), "fault_of_masters", "fault_of_masters", (["masters", "found", "names", "master"] : List PySem.Str), true⟩
def d36 : DR := ⟨44, top 84, ("fault_of_slides", none), "fault_of_slides", "fault_of_slides", (["masters", "slides", "found", "names", "slide", "over", "master"] : List PySem.Str), true⟩
def d37 : DR := ⟨45, top 85, ("fault_of", none), "fault_of", "fault_of", (["thing", "masters", "slides"] : List PySem.Str), false⟩
def d38 : DR := ⟨46, top 86, ("must_be_deck", none), "must_be_deck", "must_be_deck", (["thing"] : List PySem.Str), false⟩
def d39 : DR := ⟨47, top 87, ("place_of_slide", none), "place_of_slide", "place_of_slide", (["slides", "name"] : List PySem.Str), true⟩
def d40 : DR := ⟨48, top 88, ("slide_by", none), "slide_by", "slide_by", (["deck", "name", "at"] : List PySem.Str), false⟩
def d41 : DR := ⟨49, top 90, ("with_master", none), "with_master", "with_master", (["deck", "master", "one"] : List PySem.Str), false⟩
def d42 : DR := ⟨50, top 91, ("with_slide", none), "with_slide", "with_slide", (["deck", "slide", "one"] : List PySem.Str), false⟩
def d43 : DR := ⟨51, top 92, ("own_place", none), "own_place", "own_place", (["master", "place", "one"] : List PySem.Str), false⟩
def d44 : DR := ⟨52, top 93, ("put_own", none), "put_own", "put_own", (["master", "fresh", "own", "one"] : List PySem.Str), false⟩
def d45 : DR := ⟨53, top 94, ("with_setting", none), "with_setting", "with_setting", (["settings", "trait", "worth", "found", "one"] : List PySem.Str), false⟩
def d46 : DR := ⟨54, top 95, ("must_have_room", none), "must_have_room", "must_have_room", (["master", "place"] : List PySem.Str), false⟩
def d47 : DR := ⟨55, top 96, ("looked_up", none), "looked_up", "looked_up", (["deck", "master", "place"] : List PySem.Str), false⟩
def d48 : DR := ⟨56, top 97, ("looked_own", none), "looked_own", "looked_own", (["deck", "master", "place", "found", "own"] : List PySem.Str), false⟩
def d49 : DR := ⟨57, top 98, ("set_trait", none), "set_trait", "set_trait", (["deck", "master", "place", "trait", "worth", "found", "own"] : List PySem.Str), false⟩
def d50 : DR := ⟨58, top 99, ("unset_trait", none), "unset_trait", "unset_trait", (["deck", "master", "place", "trait", "found", "own", "one"] : List PySem.Str), false⟩
def d51 : DR := ⟨59, top 100, ("put_place", none), "put_place", "put_place", (["deck", "master", "place", "found"] : List PySem.Str), false⟩
def d52 : DR := ⟨60, top 101, ("take_place", none), "take_place", "take_place", (["deck", "master", "place", "found", "own", "one"] : List PySem.Str), false⟩
def d53 : DR := ⟨61, top 102, ("set_text", none), "set_text", "set_text", (["deck", "master", "place", "lines", "found", "own"] : List PySem.Str), false⟩
def d54 : DR := ⟨62, top 103, ("lay_under", none), "lay_under", "lay_under", (["deck", "master", "over", "found", "fresh"] : List PySem.Str), false⟩
def d55 : DR := ⟨63, top 104, ("sorted_hands", none), "sorted_hands", "sorted_hands", (["hands"] : List PySem.Str), false⟩
def d56 : DR := ⟨64, top 105, ("by_hand", none), "by_hand", "by_hand", (["deck", "slide", "place", "trait", "worth", "found", "hands", "one"] : List PySem.Str), false⟩
def d57 : DR := ⟨65, top 106, ("let_go", none), "let_go", "let_go", (["deck", "slide", "place", "trait", "found", "hands", "one"] : List PySem.Str), false⟩
def d58 : DR := ⟨66, top 107, ("fill_place", none), "fill_place", "fill_place", (["deck", "slide", "place", "lines", "found", "fills", "one"] : List PySem.Str), false⟩
def d59 : DR := ⟨67, top 108, ("lay_slide", none), "lay_slide", "lay_slide", (["deck", "slide", "master", "found"] : List PySem.Str), false⟩
def d60 : DR := ⟨68, top 110, ("put_master", none), "put_master", "put_master", (["deck", "master", "masters", "slides"] : List PySem.Str), false⟩
def d61 : DR := ⟨69, top 111, ("drop_master", none), "drop_master", "drop_master", (["deck", "name", "masters", "slides", "slide", "master"] : List PySem.Str), false⟩
def d62 : DR := ⟨70, top 112, ("must_be_at", none), "must_be_at", "must_be_at", (["thing", "many"] : List PySem.Str), false⟩
def d63 : DR := ⟨71, top 113, ("names_of", none), "names_of", "names_of", (["deck", "slide"] : List PySem.Str), false⟩
def d64 : DR := ⟨72, top 114, ("add_slide", none), "add_slide", "add_slide", (["deck", "at", "slide", "masters", "slides"] : List PySem.Str), false⟩
def d65 : DR := ⟨73, top 115, ("without", none), "without", "without", (["deck", "name", "slide"] : List PySem.Str), false⟩
def d66 : DR := ⟨74, top 116, ("take_slide", none), "take_slide", "take_slide", (["deck", "name", "left", "other", "slide"] : List PySem.Str), false⟩
def d67 : DR := ⟨75, top 117, ("go_slide", none), "go_slide", "go_slide", (["deck", "name", "at", "slide", "left"] : List PySem.Str), false⟩
def d68 : DR := ⟨76, top 118, ("renamed_link", none), "renamed_link", "renamed_link", (["link", "names", "place", "target"] : List PySem.Str), false⟩
def d69 : DR := ⟨77, top 119, ("must_be_free", none), "must_be_free", "must_be_free", (["name", "old", "names"] : List PySem.Str), false⟩
def d70 : DR := ⟨78, top 120, ("call_slide", none), "call_slide", "call_slide", (["deck", "name", "other", "names", "slides", "slide", "links", "link"] : List PySem.Str), false⟩
def d71 : DR := ⟨79, top 121, ("rename_master", none), "rename_master", "rename_master", (["deck", "name", "other", "masters", "slides", "master", "names", "found", "one"] : List PySem.Str), false⟩
def d72 : DR := ⟨80, top 122, ("must_be_worth", none), "must_be_worth", "must_be_worth", (["good"] : List PySem.Str), false⟩
def d73 : DR := ⟨81, top 123, ("hide_slide", none), "hide_slide", "hide_slide", (["deck", "name", "hidden", "slide"] : List PySem.Str), false⟩
def d74 : DR := ⟨82, top 124, ("note_slide", none), "note_slide", "note_slide", (["deck", "name", "notes", "slide"] : List PySem.Str), false⟩
def d75 : DR := ⟨83, top 125, ("step_slide", none), "step_slide", "step_slide", (["deck", "name", "steps", "slide"] : List PySem.Str), false⟩
def d76 : DR := ⟨84, top 126, ("link_slide", none), "link_slide", "link_slide", (["deck", "name", "links", "slide", "fresh"] : List PySem.Str), false⟩
def d77 : DR := ⟨85, top 131, ("done", none), "done", "done", (["deck", "deed", "word"] : List PySem.Str), false⟩
def d78 : DR := ⟨86, top 132, ("done_deed", none), "done_deed", "done_deed", (["deck", "deed"] : List PySem.Str), false⟩
def d79 : DR := ⟨105, top 134, ("worth_on", none), "worth_on", "worth_on", (["deck", "slide", "place", "trait", "one", "told", "worth"] : List PySem.Str), false⟩
def d80 : DR := ⟨129, top 136, ("worths_of", none), "worths_of", "worths_of", (["deck", "slide", "place", "there", "trait"] : List PySem.Str), false⟩
def d81 : DR := ⟨130, top 137, ("touched_slide", none), "touched_slide", "touched_slide", (["deck", "fresh", "slide", "other", "here", "there", "found", "place", "one", "old", "new", "k"] : List PySem.Str), false⟩
def d82 : DR := ⟨131, top 138, ("touched", none), "touched", "touched", (["deck", "fresh", "found", "slide", "at"] : List PySem.Str), false⟩
def d83 : DR := ⟨133, meth 140 0, ("Keeper", some "__init__"), "__init__", "Keeper.__init__", (["self", "deck"] : List PySem.Str), false⟩
def d84 : DR := ⟨134, meth 140 1, ("Keeper", some "deck"), "deck", "Keeper.deck", (["self"] : List PySem.Str), false⟩
def d85 : DR := ⟨135, meth 140 2, ("Keeper", some "come_to"), "come_to", "Keeper.come_to", (["self", "fresh", "old"] : List PySem.Str), false⟩
def d86 : DR := ⟨136, meth 140 3, ("Keeper", some "do"), "do", "Keeper.do", (["self", "deed", "fresh"] : List PySem.Str), false⟩
def d87 : DR := ⟨137, meth 140 4, ("Keeper", some "undo"), "undo", "Keeper.undo", (["self"] : List PySem.Str), false⟩
def d88 : DR := ⟨138, meth 140 5, ("Keeper", some "again"), "again", "Keeper.again", (["self"] : List PySem.Str), false⟩
def d89 : DR := ⟨200, top 142, ("_law_pen", none), "_law_pen", "_law_pen", (["script"] : List PySem.Str), false⟩
def d90 : DR := ⟨201, top 143, ("_law_draw", none), "_law_draw", "_law_draw", (["pen", "many", "found", "at", "cell", "number"] : List PySem.Str), false⟩
def d91 : DR := ⟨202, top 144, ("_law_names", none), "_law_names", "_law_names", (["pen", "many", "letters", "some", "step", "code", "k", "begin"] : List PySem.Str), false⟩
def d92 : DR := ⟨203, top 145, ("_law_line", none), "_law_line", "_law_line", (["pen", "words", "line", "k"] : List PySem.Str), false⟩
def d93 : DR := ⟨204, top 146, ("_law_lines", none), "_law_lines", "_law_lines", (["pen", "many", "k"] : List PySem.Str), false⟩
def d94 : DR := ⟨205, top 147, ("_law_worth", none), "_law_worth", "_law_worth", (["pen", "trait"] : List PySem.Str), false⟩
def d95 : DR := ⟨206, top 148, ("_law_traits", none), "_law_traits", "_law_traits", ([] : List PySem.Str), false⟩
def d96 : DR := ⟨207, top 149, ("_law_place", none), "_law_place", "_law_place", (["pen", "name", "settings", "trait"] : List PySem.Str), false⟩
def d97 : DR := ⟨208, top 150, ("_law_masters", none), "_law_masters", "_law_masters", (["pen", "most", "pool", "names", "made", "k", "over", "own", "name"] : List PySem.Str), false⟩
def d98 : DR := ⟨209, top 151, ("_law_steps", none), "_law_steps", "_law_steps", (["pen", "pool", "most", "steps", "k", "kind", "wait", "line"] : List PySem.Str), false⟩
def d99 : DR := ⟨210, top 152, ("_law_slide", none), "_law_slide", "_law_slide", (["pen", "name", "masters", "pool", "names", "master", "hands", "place", "one", "fills", "links", "target", "notes", "steps"] : List PySem.Str), false⟩
def d100 : DR := ⟨211, top 153, ("_law_deck", none), "_law_deck", "_law_deck", (["pen", "masters", "slides", "pool", "over", "names", "name"] : List PySem.Str), false⟩
def d101 : DR := ⟨235, top 155, ("_law_fault_free", none), "_law_fault_free", "_law_fault_free", (["pen", "deck", "way", "bare", "more"] : List PySem.Str), false⟩
def d102 : DR := ⟨236, top 156, ("_law_done", none), "_law_done", "_law_done", (["deck", "thing", "caught"] : List PySem.Str), false⟩
def d103 : DR := ⟨237, top 157, ("_law_kept", none), "_law_kept", "_law_kept", (["keeper", "thing", "caught"] : List PySem.Str), false⟩
def d104 : DR := ⟨443, top 158, ("law", none), "law", "law", (["script", "pen", "deck", "words", "many", "keeper", "things", "k", "deed", "turn", "thing", "other"] : List PySem.Str), false⟩
def dLaw : DR := d104
def defs : List DR := ([d0, d1, d2, d3, d4, d5, d6, d7, d8, d9, d10, d11, d12, d13, d14, d15] : List (DR)) ++ ([d16, d17, d18, d19, d20, d21, d22, d23, d24, d25, d26, d27, d28, d29, d30, d31] : List (DR)) ++ ([d32, d33, d34, d35, d36, d37, d38, d39, d40, d41, d42, d43, d44, d45, d46, d47] : List (DR)) ++ ([d48, d49, d50, d51, d52, d53, d54, d55, d56, d57, d58, d59, d60, d61, d62, d63] : List (DR)) ++ ([d64, d65, d66, d67, d68, d69, d70, d71, d72, d73, d74, d75, d76, d77, d78, d79] : List (DR)) ++ ([d80, d81, d82, d83, d84, d85, d86, d87, d88, d89, d90, d91, d92, d93, d94, d95] : List (DR)) ++ ([d96, d97, d98, d99, d100, d101, d102, d103, d104] : List (DR))
def T_ := T
def gns : List (Nat × PySem.Str) := ([(0, "TRAITS"), (1, "OWN"), (3, "LETTERS"), (4, "FIGURES"), (5, "SIGNS"), (6, "LONGEST_NAME"), (7, "LONGEST_LINE"), (8, "MOST_LINES"), (9, "MOST_MASTERS_masters"), (10, "MOST_PLACES"), (24, "MOST_MASTERS_decks"), (11, "MOST_SLIDES"), (12, "MOST_HANDS"), (13, "MOST_FILLS"), (14, "MOST_STEPS"), (15, "MOST_NOTES")] : List (Nat × PySem.Str)) ++ ([(16, "KINDS"), (17, "DEEDS")] : List (Nat × PySem.Str))
def dns : List (Nat × PySem.Str × List (PySem.Str × D)) := [(2, "BOUNDS", ([("left", (.tup [(.int (-999)), (.int 999)])), ("top", (.tup [(.int (-999)), (.int 999)])), ("wide", (.tup [(.int 1), (.int 999)])), ("high", (.tup [(.int 1), (.int 999)])), ("size", (.tup [(.int 1), (.int 99)]))] : List (PySem.Str × D))), (18, "BY_ONE", ([("master", (.fn 68)), ("drop", (.fn 69)), ("take", (.fn 74))] : List (PySem.Str × D))), (19, "BY_TWO", ([("place", (.fn 59)), ("unplace", (.fn 60)), ("over", (.fn 62)), ("under", (.fn 67)), ("add", (.fn 72)), ("go", (.fn 75)), ("call", (.fn 78)), ("rename", (.fn 79)), ("hide", (.fn 81)), ("note", (.fn 82)), ("steps", (.fn 83)), ("links", (.fn 84))] : List (PySem.Str × D))), (20, "BY_THREE", ([("unset", (.fn 58)), ("text", (.fn 61)), ("free", (.fn 65)), ("fill", (.fn 66))] : List (PySem.Str × D))), (21, "BY_FOUR", ([("set", (.fn 57)), ("hand", (.fn 64))] : List (PySem.Str × D)))]
def ld : LD where
  prog := pr
  defs := defs
  T := T
  G := G
  xn := (["NoDeck", "NoDeed", "NoLink", "NoMaster", "NoName", "NoNumber", "NoPlace", "NoPress", "NoRoom", "NoRow", "NoSetting", "NoShow", "NoSlide", "NoSteps", "NoText", "NoTime"] : List PySem.Str) ++ (["NoTrait", "NoWord", "NoWorth", "Ring", "Taken", "TooMany", "Used", "DeckError"] : List PySem.Str)
  cn := (["Keeper", "Keeper", "Keeper", "Keeper", "Keeper"] : List PySem.Str)
  c0 := "Keeper"
  xr := ([(0, "NoDeck"), (1, "NoDeed"), (2, "NoLink"), (3, "NoMaster"), (4, "NoName"), (5, "NoNumber"), (6, "NoPlace"), (7, "NoPress"), (8, "NoRoom"), (9, "NoRow"), (10, "NoSetting"), (11, "NoShow"), (12, "NoSlide"), (13, "NoSteps"), (15, "NoTime"), (16, "NoTrait")] : List (Nat × PySem.Str)) ++ ([(17, "NoWord"), (18, "NoWorth"), (19, "Ring"), (20, "Taken"), (21, "TooMany"), (22, "Used")] : List (Nat × PySem.Str))
  fdn := ([(1, "ahead"), (2, "behind"), (0, "now")] : List (Nat × PySem.Str))
  gns := gns
  dns := dns
  tgs := ([(0, "TRAITS")] : List (Nat × PySem.Str))
  mks := ([(0, 133, "Keeper")] : List (Nat × Nat × PySem.Str))
  mts := ([(0, 134, "deck"), (0, 135, "come_to"), (0, 136, "do"), (0, 137, "undo"), (0, 138, "again")] : List (Nat × Nat × PySem.Str))
  bi := (["ValueError", "all", "any", "bool", "int", "isinstance", "len", "list", "range", "reversed", "sorted", "str", "tuple", "zip"] : List PySem.Str)
  fwd := some ⟨41, top 81, ("first_where", none), "first_where", "first_where", (["things", "is_bad", "k"] : List PySem.Str), false⟩
  wdd := some ⟨213, top 154, ("_law_word", none), "_law_word", "_law_word", (["caught", "told", "words", "found", "word", "so"] : List PySem.Str), false⟩
  wcl := [0, 1, 2, 3, 4, 5, 6, 7, 8, 9, 10, 11, 12, 13, 15, 16, 17, 18, 19, 20, 21, 22]
  dy := [57, 58, 59, 60, 61, 62, 64, 65, 66, 67, 68, 69, 72, 74, 75, 78, 79, 81, 82, 83, 84]
  tf := (["fault_of_masters", "fault_of_slides", "place_of_slide"] : List PySem.Str)
def names : List PySem.Str := (["_wall", "DeckError", "NoDeck", "NoMaster", "NoSlide", "NoPlace", "NoTrait", "NoWorth", "NoSetting", "NoName", "Taken", "TooMany", "Ring", "Used", "NoRoom", "NoSteps"] : List PySem.Str) ++ (["NoPress", "NoTime", "NoShow", "NoLink", "NoNumber", "NoWord", "NoDeed", "NoText", "NoRow", "TRAITS", "OWN", "BOUNDS", "LETTERS", "FIGURES", "SIGNS", "LONGEST_NAME"] : List PySem.Str) ++ (["LONGEST_LINE", "MOST_LINES", "is_whole", "is_from", "is_name", "is_written", "is_lines", "is_trait", "must_be_trait", "is_worth", "own_worth", "MOST_MASTERS_masters", "MOST_PLACES", "is_setting", "rise", "are_settings"] : List PySem.Str) ++ (["is_place", "are_unlike", "is_master", "master_by", "comes_round", "must_be_master", "chain_by", "places_by", "must_be_place", "settings_by", "worth_here", "MOST_MASTERS_decks", "MOST_SLIDES", "MOST_HANDS", "MOST_FILLS", "MOST_STEPS"] : List PySem.Str) ++ (["MOST_NOTES", "KINDS", "DEEDS", "is_hand", "are_hands", "is_fill", "are_fills", "is_step", "are_steps", "is_target", "is_link", "are_links", "is_slide", "first_where", "leads_astray", "fault_of_masters"] : List PySem.Str) ++ (["fault_of_slides", "fault_of", "must_be_deck", "place_of_slide", "slide_by", "with_master", "with_slide", "own_place", "put_own", "with_setting", "must_have_room", "looked_up", "looked_own", "set_trait", "unset_trait", "put_place"] : List PySem.Str) ++ (["take_place", "set_text", "lay_under", "sorted_hands", "by_hand", "let_go", "fill_place", "lay_slide", "put_master", "drop_master", "must_be_at", "names_of", "add_slide", "without", "take_slide", "go_slide"] : List PySem.Str) ++ (["renamed_link", "must_be_free", "call_slide", "rename_master", "must_be_worth", "hide_slide", "note_slide", "step_slide", "link_slide", "BY_ONE", "BY_TWO", "BY_THREE", "BY_FOUR", "done", "done_deed", "worth_on"] : List PySem.Str) ++ (["worths_of", "touched_slide", "touched", "Keeper", "_law_pen", "_law_draw", "_law_names", "_law_line", "_law_lines", "_law_worth", "_law_traits", "_law_place", "_law_masters", "_law_steps", "_law_slide", "_law_deck"] : List PySem.Str) ++ (["_law_word", "_law_fault_free", "_law_done", "_law_kept"] : List PySem.Str)
def lawIx : Nat := 158
end Ms.L61

set_option Elab.async false
set_option linter.all false
set_option autoImplicit false
set_option maxRecDepth 100000
set_option maxHeartbeats 0
namespace Ms.L61
open PySem PySem.W PySem.Calls PySem.Spec PyProof.Rows L2 Ms
abbrev R : PySem.W.OpenRow := PySem.W.OpenLaw.row PySem.Challenge.rw_mastershow_k61_what_is_no_deed
def tfs : List He.Defn := ld.tf.map fun x => (x, none)
abbrev hk : PySem.W.Hook := hookY 1300 ld.fns ld.ts tfs ld.exB
def ob (s : PySem.W.SharedT) : He.AlX := obsF 1300 ld.fns ld.ts tfs ld.exB (HandSHeadRun.getT s)
theorem ob_eq (s : PySem.W.SharedT) : ob s = hk.obs s.abs := obsY_eq 1300 ld.fns ld.ts tfs ld.exB (HandSHeadRun.getT_eq s)
abbrev qv : Program := PySem.W.view R.prog [lawIx]
noncomputable abbrev endAt (w : World) (os : OsState) : Option PySem.W.SharedT := HandSHeadRun.endF (HandSHeadRun.stepQ (HandSHeadRun.denQ HandSHeadRun.tabQ) R.prog w) 12000 R.prog w os
noncomputable def obA (w : World) (s : PySem.W.SharedT) : Bool := HandSHeadRun.looksF R.prog (boot_heap w.params) s.abs
noncomputable def obS (s : PySem.W.SharedT) := HandSHeadRun.seenQ qv names (importedModules R.prog.main.body) (fun s => PySem.W.xlAt qv [] s && PySem.W.recOk R.toRowW.records s) s.abs
def NL : List (Option (PySem.Str × Option Addr)) := ([some ("__name__", none), some ("__doc__", none), some ("__package__", none), some ("__loader__", none), some ("__spec__", none), some ("__annotations__", some 6), some ("__builtins__", some 4), some ("__file__", none), some ("__cached__", none), some ("_wall", some 21), some ("DeckError", some 31), some ("NoDeck", some 44), some ("NoMaster", some 56), some ("NoSlide", some 68), some ("NoPlace", some 80), some ("NoTrait", some 92)] : List (Option (PySem.Str × Option Addr))) ++ ([some ("NoWorth", some 104), some ("NoSetting", some 116), some ("NoName", some 128), some ("Taken", some 140), some ("TooMany", some 152), some ("Ring", some 164), some ("Used", some 176), some ("NoRoom", some 188), some ("NoSteps", some 200), some ("NoPress", some 212), some ("NoTime", some 224), some ("NoShow", some 236), some ("NoLink", some 248), some ("NoNumber", some 260), some ("NoWord", some 272), some ("NoDeed", some 284)] : List (Option (PySem.Str × Option Addr))) ++ ([some ("NoText", some 303), some ("NoRow", some 315), some ("TRAITS", some 318), some ("OWN", some 319), some ("BOUNDS", some 320), some ("LETTERS", none), some ("FIGURES", none), some ("SIGNS", none), some ("LONGEST_NAME", none), some ("LONGEST_LINE", none), some ("MOST_LINES", none), some ("is_whole", some 332), some ("is_from", some 339), some ("is_name", some 344), some ("is_written", some 351), some ("is_lines", some 356)] : List (Option (PySem.Str × Option Addr))) ++ ([some ("is_trait", some 363), some ("must_be_trait", some 370), some ("is_worth", some 377), some ("own_worth", some 384), some ("MOST_MASTERS_masters", none), some ("MOST_PLACES", none), some ("is_setting", some 391), some ("rise", some 396), some ("are_settings", some 401), some ("is_place", some 408), some ("are_unlike", some 413), some ("is_master", some 418), some ("master_by", some 425), some ("comes_round", some 432), some ("must_be_master", some 439), some ("chain_by", some 446)] : List (Option (PySem.Str × Option Addr))) ++ ([some ("places_by", some 451), some ("must_be_place", some 458), some ("settings_by", some 465), some ("worth_here", some 472), some ("MOST_MASTERS_decks", none), some ("MOST_SLIDES", none), some ("MOST_HANDS", none), some ("MOST_FILLS", none), some ("MOST_STEPS", none), some ("MOST_NOTES", none), some ("KINDS", some 473), some ("DEEDS", some 474), some ("is_hand", some 481), some ("are_hands", some 486), some ("is_fill", some 493), some ("are_fills", some 498)] : List (Option (PySem.Str × Option Addr))) ++ ([some ("is_step", some 505), some ("are_steps", some 510), some ("is_target", some 517), some ("is_link", some 524), some ("are_links", some 529), some ("is_slide", some 536), some ("first_where", some 543), some ("leads_astray", some 548), some ("fault_of_masters", some 553), some ("fault_of_slides", some 558), some ("fault_of", some 565), some ("must_be_deck", some 572), some ("place_of_slide", some 579), some ("slide_by", some 586), some ("with_master", some 591), some ("with_slide", some 596)] : List (Option (PySem.Str × Option Addr))) ++ ([some ("own_place", some 603), some ("put_own", some 608), some ("with_setting", some 613), some ("must_have_room", some 620), some ("looked_up", some 627), some ("looked_own", some 634), some ("set_trait", some 641), some ("unset_trait", some 646), some ("put_place", some 653), some ("take_place", some 658), some ("set_text", some 665), some ("lay_under", some 672), some ("sorted_hands", some 679), some ("by_hand", some 684), some ("let_go", some 689), some ("fill_place", some 694)] : List (Option (PySem.Str × Option Addr))) ++ ([some ("lay_slide", some 701), some ("put_master", some 708), some ("drop_master", some 713), some ("must_be_at", some 720), some ("names_of", some 725), some ("add_slide", some 732), some ("without", some 737), some ("take_slide", some 742), some ("go_slide", some 749), some ("renamed_link", some 756), some ("must_be_free", some 763), some ("call_slide", some 768), some ("rename_master", some 773), some ("must_be_worth", some 780), some ("hide_slide", some 787), some ("note_slide", some 794)] : List (Option (PySem.Str × Option Addr))) ++ ([some ("step_slide", some 801), some ("link_slide", some 808), some ("BY_ONE", some 809), some ("BY_TWO", some 810), some ("BY_THREE", some 811), some ("BY_FOUR", some 812), some ("done", some 819), some ("done_deed", some 826), some ("worth_on", some 833), some ("worths_of", some 838), some ("touched_slide", some 843), some ("touched", some 850), some ("Keeper", some 902), some ("_law_pen", some 913), some ("_law_draw", some 920), some ("_law_names", some 927)] : List (Option (PySem.Str × Option Addr))) ++ ([some ("_law_line", some 932), some ("_law_lines", some 937), some ("_law_worth", some 944), some ("_law_traits", some 951), some ("_law_place", some 956), some ("_law_masters", some 963), some ("_law_steps", some 970), some ("_law_slide", some 975), some ("_law_deck", some 980), some ("_law_word", some 985), some ("_law_fault_free", some 992), some ("_law_done", some 999), some ("_law_kept", some 1006), some ("law", some 1013)] : List (Option (PySem.Str × Option Addr)))
def AD : List (Option Addr) := ld.fns.map (adOf NL)
def AL : List (Option Addr) := ([some 21, some 332, some 339, some 344, some 351, some 356, some 363, some 370, some 377, some 384, some 391, some 396, some 401, some 408, some 413, some 418] : List (Option Addr)) ++ ([some 425, some 432, some 439, some 446, some 451, some 458, some 465, some 472, some 481, some 486, some 493, some 498, some 505, some 510, some 517, some 524] : List (Option Addr)) ++ ([some 529, some 536, some 548, some 553, some 558, some 565, some 572, some 579, some 586, some 591, some 596, some 603, some 608, some 613, some 620, some 627] : List (Option Addr)) ++ ([some 634, some 641, some 646, some 653, some 658, some 665, some 672, some 679, some 684, some 689, some 694, some 701, some 708, some 713, some 720, some 725] : List (Option Addr)) ++ ([some 732, some 737, some 742, some 749, some 756, some 763, some 768, some 773, some 780, some 787, some 794, some 801, some 808, some 819, some 826, some 833] : List (Option Addr)) ++ ([some 838, some 843, some 850, none, none, none, none, none, none, some 913, some 920, some 927, some 932, some 937, some 944, some 951] : List (Option Addr)) ++ ([some 956, some 963, some 970, some 975, some 980, some 992, some 999, some 1006, some 1013, some 543, some 985] : List (Option Addr))
theorem AL_ok : ld.fns.map (adOf NL) = AL := by decide +kernel
theorem glo_ok : ld.gloB NL = true := by decide +kernel
def obZ (s : PySem.W.SharedT) : ZT := frF (HandSHeadRun.getT s) 1300 [] (obGK ld tfs AL (HandSHeadRun.getT s) 1300)
theorem runA_false (w : World) (os : OsState) : (endAt (w.withFollow "special-get-raises" false) os).map (fun s => (obA (w.withFollow "special-get-raises" false) s, obS s)) = some (true, PySem.W.openGood qv names) := by
  kernel_rfl
theorem runZ_false (w : World) (os : OsState) : (endAt (w.withFollow "special-get-raises" false) os).map (obZ) = some (((some NL, true, true), (true, ld.fns.map He.DefD.val)), ld.ts.map fun t => some (He.keysIn (w.withFollow "special-get-raises" false).params t.2)) := by
  kernel_rfl
theorem runA_true (w : World) (os : OsState) : (endAt (w.withFollow "special-get-raises" true) os).map (fun s => (obA (w.withFollow "special-get-raises" true) s, obS s)) = some (true, PySem.W.openGood qv names) := by
  kernel_rfl
theorem runZ_true (w : World) (os : OsState) : (endAt (w.withFollow "special-get-raises" true) os).map (obZ) = some (((some NL, true, true), (true, ld.fns.map He.DefD.val)), ld.ts.map fun t => some (He.keysIn (w.withFollow "special-get-raises" true).params t.2)) := by
  kernel_rfl
end Ms.L61

set_option Elab.async false
set_option linter.all false
set_option autoImplicit false
set_option maxRecDepth 100000
set_option maxHeartbeats 0
namespace Ms.L61
open PySem PySem.W PySem.Calls PySem.Spec PyProof.Rows L2 Ms
theorem ob_of {s : PySem.W.SharedT} {vs : List He.FnW} {ts : List (Option (List (Option (PySem.Str × Int))))} (h : obZ s = (((some NL, true, true), (true, vs)), ts)) : ob s = (((true, vs), ts), true) := by
  unfold obZ at h
  unfold ob obsF
  rw [frF_eq, List.append_nil] at h ⊢
  exact obG_of AL_ok glo_ok h
theorem run_of {w : World} (hA : ∀ os, (endAt w os).map (fun s => (obA w s, obS s)) = some (true, PySem.W.openGood qv names)) (hZ : ∀ os, (endAt w os).map obZ = some (((some NL, true, true), (true, ld.fns.map He.DefD.val)), ld.ts.map fun t => some (He.keysIn w.params t.2))) : HandSHeadRun.RunEq R qv hk ob 12000 names w := by
  intro os
  show (endAt w os).map _ = _
  have h1 := hA os
  have h3 := hZ os
  cases q : endAt w os with
  | none => rw [q] at h1; cases h1
  | some s =>
    rw [q] at h1 h3
    simp only [Option.map_some, Option.some.injEq, Prod.mk.injEq] at h1
    have h3 := Option.some.inj h3
    show some (obA w s, obS s, ob s) = some (true, PySem.W.openGood qv names, (((true, ld.fns.map He.DefD.val), ld.ts.map fun t => some (He.keysIn w.params t.2)), true))
    rw [h1.1, h1.2, ob_of h3]
theorem run (w : World) : HandSHeadRun.RunEq R qv hk ob 12000 names w :=
  PySem.W.byRow2 "special-get-raises" (P := fun w => HandSHeadRun.RunEq R qv hk ob 12000 names w) (fun w => run_of (runA_false w) (runZ_false w)) (fun w => run_of (runA_true w) (runZ_true w)) w
end Ms.L61

set_option Elab.async false
set_option linter.all false
set_option autoImplicit false
set_option maxRecDepth 100000
set_option maxHeartbeats 1000000
namespace Ms
open PySem PySem.Spec L2
open PyProof.Rows hiding St

def strV (s : List Nat) : V := .str ⟨s.toArray⟩
def okS (s : List Nat) : Prop := ∀ c ∈ s, c < 1114112
def keyD : Key → D → Prop
  | .inl i, .int j => i = j
  | .inr x, .str s => x = ⟨s.toArray⟩ ∧ okS s
  | _, _ => False

/-- what stands fixed through a law: the program, the written part, the tables of the inner language -/
structure Glob where
  P : Program
  w : World
  K : PySem.W.Frag
  mg : Str → Option Value
  base : Heap
  T : Nat → Option Fn
  G : Nat → D
  fa : Nat → Addr
  xa : Nat → Addr
  ca : Nat → Addr
  fnm : Nat → Str
  tabs : List (Addr × Str)
  dyf : Nat → Bool

/-- a dict of the written part with text keys -/
def KDictAt (g : Glob) (d : Addr) (kvs : List (Key × V)) : Prop :=
  ∃ es n, KDict g.K g.w d es n ∧ ∀ z : Str, match valV kvs (.inr z) with
    | none => PySem.W.nsIn g.K d z = some none
    | some v => ∃ u, PySem.W.nsIn g.K d z = some (some u) ∧ RelV v u
mutual
/-- v is the value d, over the frozen heap Z and the stored things at S -/
inductive Den (g : Glob) (Z : Hp) (S : List Addr) : V → D → Prop
  | non : Den g Z S .non .non
  | bl (b : Bool) : Den g Z S (.bl b) (.bl b)
  | int (i : Int) : Den g Z S (.int i) (.int i)
  | str (s : List Nat) (h : okS s) : Den g Z S (strV s) (.str s)
  | tup {a : Addr} {xs : List V} {ds : List D} : SqT g.K Z a xs → DenL g Z S xs ds → Den g Z S (.ref a) (.tup ds)
  | lst {a : Addr} {xs : List V} {ds : List D} : Z a = some (.lst xs) → DenL g Z S xs ds → Den g Z S (.ref a) (.lst ds)
  | dct {a : Addr} {kvs : List (Key × V)} {ds : List (D × D)} : Z a = some (.dK kvs) → DenK g Z S kvs ds → Den g Z S (.ref a) (.dct ds)
  | kdct {a : Addr} {kvs : List (Key × V)} {ds : List (D × D)} : KDictAt g a kvs → DenK g Z S kvs ds → Den g Z S (.ref a) (.dct ds)
  | obj {n : Nat} {a : Addr} : S[n]? = some a → Den g Z S (.ref a) (.obj n)
  | fn (n : Nat) (h : g.dyf n = true) : Den g Z S (.ref (g.fa n)) (.fn n)
  | frz {a : Addr} {ns : List Int} : SqL g.K Z a (ns.map V.int) → Den g Z S (.ref a) (.frz ns)
inductive DenL (g : Glob) (Z : Hp) (S : List Addr) : List V → List D → Prop
  | nil : DenL g Z S [] []
  | cons {v : V} {d : D} {vs : List V} {ds : List D} : Den g Z S v d → DenL g Z S vs ds → DenL g Z S (v :: vs) (d :: ds)
inductive DenK (g : Glob) (Z : Hp) (S : List Addr) : List (Key × V) → List (D × D) → Prop
  | nil : DenK g Z S [] []
  | cons {k : Key} {kd : D} {v : V} {d : D} {vs : List (Key × V)} {ds : List (D × D)} : keyD k kd → Den g Z S v d → DenK g Z S vs ds → DenK g Z S ((k, v) :: vs) ((kd, d) :: ds)
end

def HLe (Z Z' : Hp) : Prop := ∀ a o, Z a = some o → Z' a = some o
theorem HLe.refl (Z : Hp) : HLe Z Z := fun _ _ h => h
theorem HLe.trans {Z Z1 Z2 : Hp} (a : HLe Z Z1) (b : HLe Z1 Z2) : HLe Z Z2 := fun _ _ h => b _ _ (a _ _ h)
theorem Rd.le {Z Z' : Hp} {a : Addr} {u : HO} (r : Rd Z a u) (h : HLe Z Z') : Rd Z' a u := r.elim (fun x => .inl (h _ _ x)) fun ⟨o, x⟩ => .inr ⟨o, h _ _ x⟩
theorem SqT.le {K : PySem.W.Frag} {Z Z' : Hp} {a : Addr} {xs : List V} (r : SqT K Z a xs) (h : HLe Z Z') : SqT K Z' a xs := r.elim (fun x => .inl (Rd.le x h)) .inr
theorem SqL.le {K : PySem.W.Frag} {Z Z' : Hp} {a : Addr} {xs : List V} (r : SqL K Z a xs) (h : HLe Z Z') : SqL K Z' a xs := r.elim (fun x => .inl (Rd.le x h)) .inr
theorem pre_get {S S' : List Addr} (h : S <+: S') {n : Nat} {a : Addr} (e : S[n]? = some a) : S'[n]? = some a := by
  obtain ⟨t, rfl⟩ := h
  rw [List.getElem?_append_left (List.getElem?_eq_some_iff.mp e).1]; exact e
section
variable {g : Glob} {Z Z' : Hp} {S S' : List Addr}
mutual
theorem Den.mono (hz : HLe Z Z') (hs : S <+: S') : ∀ {v : V} {d : D}, Den g Z S v d → Den g Z' S' v d
  | _, _, .non => .non
  | _, _, .bl b => .bl b
  | _, _, .int i => .int i
  | _, _, .str s h => .str s h
  | _, _, .tup h r => .tup (SqT.le h hz) (DenL.mono hz hs r)
  | _, _, .lst h r => .lst (hz _ _ h) (DenL.mono hz hs r)
  | _, _, .dct h r => .dct (hz _ _ h) (DenK.mono hz hs r)
  | _, _, .kdct h r => .kdct h (DenK.mono hz hs r)
  | _, _, .obj h => .obj (pre_get hs h)
  | _, _, .fn n h => .fn n h
  | _, _, .frz h => .frz (SqL.le h hz)
theorem DenL.mono (hz : HLe Z Z') (hs : S <+: S') : ∀ {vs : List V} {ds : List D}, DenL g Z S vs ds → DenL g Z' S' vs ds
  | _, _, .nil => .nil
  | _, _, .cons h r => .cons (Den.mono hz hs h) (DenL.mono hz hs r)
theorem DenK.mono (hz : HLe Z Z') (hs : S <+: S') : ∀ {vs : List (Key × V)} {ds : List (D × D)}, DenK g Z S vs ds → DenK g Z' S' vs ds
  | _, _, .nil => .nil
  | _, _, .cons k h r => .cons k (Den.mono hz hs h) (DenK.mono hz hs r)
end
theorem DenL.length : ∀ {vs : List V} {ds : List D}, DenL g Z S vs ds → vs.length = ds.length
  | _, _, .nil => rfl
  | _, _, .cons _ r => by simp [r.length]
theorem DenL.get : ∀ {vs : List V} {ds : List D} {i : Nat} {d : D}, DenL g Z S vs ds → ds[i]? = some d → ∃ v, vs[i]? = some v ∧ Den g Z S v d
  | _, _, _, _, .nil, e => by simp at e
  | _, _, 0, d, .cons h _, e => by simp at e; subst e; exact ⟨_, rfl, h⟩
  | _, _, i + 1, d, .cons _ r, e => by
    obtain ⟨v, h1, h2⟩ := r.get (i := i) (by simpa using e)
    exact ⟨v, by simpa using h1, h2⟩
theorem DenL.append : ∀ {vs ws : List V} {ds es : List D}, DenL g Z S vs ds → DenL g Z S ws es → DenL g Z S (vs ++ ws) (ds ++ es)
  | _, _, _, _, .nil, r => r
  | _, _, _, _, .cons h q, r => .cons h (q.append r)
theorem DenL.drop : ∀ {vs : List V} {ds : List D} (n : Nat), DenL g Z S vs ds → DenL g Z S (vs.drop n) (ds.drop n)
  | _, _, 0, r => r
  | _, _, _ + 1, .nil => .nil
  | _, _, n + 1, .cons _ r => r.drop n
theorem DenL.take : ∀ {vs : List V} {ds : List D} (n : Nat), DenL g Z S vs ds → DenL g Z S (vs.take n) (ds.take n)
  | _, _, 0, _ => .nil
  | _, _, _ + 1, .nil => .nil
  | _, _, n + 1, .cons h r => .cons h (r.take n)
theorem DenL.snoc {vs : List V} {ds : List D} {v : V} {d : D} (r : DenL g Z S vs ds) (h : Den g Z S v d) : DenL g Z S (vs ++ [v]) (ds ++ [d]) := r.append (.cons h .nil)
theorem DenL.set {v : V} {d : D} (h : Den g Z S v d) : ∀ {vs : List V} {ds : List D} (j : Nat), DenL g Z S vs ds → DenL g Z S (vs.set j v) (ds.set j d)
  | _, _, _, .nil => .nil
  | _, _, 0, .cons _ r => .cons h r
  | _, _, j + 1, .cons q r => .cons q (DenL.set h j r)
theorem DenL.reverse : ∀ {vs : List V} {ds : List D}, DenL g Z S vs ds → DenL g Z S vs.reverse ds.reverse
  | _, _, .nil => .nil
  | _, _, .cons h r => by simpa using r.reverse.append (.cons h .nil)
theorem DenL.dropLast : ∀ {vs : List V} {ds : List D}, DenL g Z S vs ds → DenL g Z S vs.dropLast ds.dropLast
  | _, _, .nil => .nil
  | _, _, .cons _ .nil => .nil
  | _, _, .cons h (.cons q r) => .cons h (DenL.dropLast (.cons q r))
theorem DenL.ints (Z : Hp) (S : List Addr) : ∀ ns : List Int, DenL g Z S (ns.map V.int) (ns.map D.int)
  | [] => .nil
  | n :: r => .cons (.int n) (DenL.ints Z S r)
end

/-! ### the store, the frame -/
def notTbl (o : HO) : Prop := ∀ ps, o ≠ .tbl ps
inductive FldR (g : Glob) (Z : Hp) (S : List Addr) : List (Str × V) → List (Nat × D) → Prop
  | nil : FldR g Z S [] []
  | cons {f : Nat} {v : V} {d : D} {vs : List (Str × V)} {ds : List (Nat × D)} : Den g Z S v d → FldR g Z S vs ds → FldR g Z S ((g.fnm f, v) :: vs) ((f, d) :: ds)
def CellR (g : Glob) (Z : Hp) (S : List Addr) (H : Hp) (a : Addr) : Cell → Prop
  | .lst l => ∃ vs, H a = some (.lst vs) ∧ DenL g Z S vs l
  | .ins c fs => ∃ dx vs, H a = some (.ins (g.ca c) dx vs) ∧ FldR g Z S vs fs
structure StoR (g : Glob) (Z : Hp) (S : List Addr) (H : Hp) (s : Sto) : Prop where
  z : HLe Z H
  sl : s.length = S.length
  st : ∀ (n : Nat) (c : Cell) (a : Addr), s[n]? = some c → S[n]? = some a → CellR g Z S H a c
  sd : S.Nodup
  sz : ∀ a ∈ S, Z a = none
  tb : LamX.Tabs g.tabs H
  zt : ∀ a o, Z a = some o → notTbl o
structure Ext (S : List Addr) (Z H : Hp) (S' : List Addr) (Z' H' : Hp) : Prop where
  zz : HLe Z Z'
  ss : S <+: S'
  hh : ∀ a o, H a = some o → a ∉ S → notTbl o → H' a = some o
  tt : ∀ a ps, H a = some (.tbl ps) → ∃ ps', H' a = some (.tbl ps')
  nw : ∀ a ∈ S', a ∈ S ∨ H a = none
  zn : ∀ a o, Z' a = some o → Z a = some o ∨ H a = none
theorem Ext.refl {S : List Addr} {Z H : Hp} : Ext S Z H S Z H := ⟨HLe.refl _, List.prefix_refl _, fun _ _ h _ _ => h, fun _ ps h => ⟨ps, h⟩, fun _ h => .inl h, fun _ _ h => .inl h⟩
theorem Ext.none {S S' : List Addr} {Z H Z' H' : Hp} (x : Ext S Z H S' Z' H') {a : Addr} (h : H' a = none) (hs : a ∉ S) : H a = none := by
  cases q : H a with
  | none => rfl
  | some o =>
    by_cases t : notTbl o
    · rw [x.hh a o q hs t] at h; cases h
    · unfold notTbl at t
      have ⟨ps, e⟩ : ∃ ps, o = .tbl ps := Classical.byContradiction fun n => t fun ps e => n ⟨ps, e⟩
      subst e
      obtain ⟨ps', e⟩ := x.tt a ps q
      rw [e] at h; cases h
theorem Ext.trans {S S1 S2 : List Addr} {Z Z1 Z2 H H1 H2 : Hp} (x : Ext S Z H S1 Z1 H1) (y : Ext S1 Z1 H1 S2 Z2 H2) (sz : ∀ a ∈ S2, Z2 a = Option.none) : Ext S Z H S2 Z2 H2 where
  zz := x.zz.trans y.zz
  ss := x.ss.trans y.ss
  hh := fun a o e hs t => y.hh a o (x.hh a o e hs t) (fun h => (x.nw a h).elim hs fun n => by rw [n] at e; cases e) t
  tt := fun a ps e => by
    obtain ⟨p1, e1⟩ := x.tt a ps e
    exact y.tt a p1 e1
  nw := fun a h => (y.nw a h).elim (fun h => x.nw a h) fun h => by
    by_cases hs : a ∈ S
    · exact .inl hs
    · exact .inr (x.none h hs)
  zn := fun a o e => (y.zn a o e).elim (fun h => x.zn a o h) fun h => by
    by_cases q : H a = Option.none
    · exact .inr q
    · exfalso
      by_cases hs : a ∈ S
      · have h2 := sz a (y.ss.subset (x.ss.subset hs))
        rw [h2] at e; cases e
      · exact q (x.none h hs)

theorem Ext.den {g : Glob} {S S' : List Addr} {Z H Z' H' : Hp} (x : Ext S Z H S' Z' H') {v : V} {d : D} (h : Den g Z S v d) : Den g Z' S' v d := h.mono x.zz x.ss
theorem Ext.denL {g : Glob} {S S' : List Addr} {Z H Z' H' : Hp} (x : Ext S Z H S' Z' H') {vs : List V} {ds : List D} (h : DenL g Z S vs ds) : DenL g Z' S' vs ds := h.mono x.zz x.ss
theorem StoR.trans {g : Glob} {S S1 S2 : List Addr} {Z Z1 Z2 H H1 H2 : Hp} {s : Sto} (r : StoR g Z2 S2 H2 s) (x : Ext S Z H S1 Z1 H1) (y : Ext S1 Z1 H1 S2 Z2 H2) : Ext S Z H S2 Z2 H2 := x.trans y r.sz

/-- one slot -/
def SlotR (g : Glob) (Z : Hp) (S : List Addr) (H H0 : Hp) (v : Option V) : Slot → Prop
  | .non => True
  | .val d => ∃ x, v = some x ∧ Den g Z S x d
  | .own l => ∃ a vs, v = some (.ref a) ∧ H a = some (.lst vs) ∧ DenL g Z S vs l ∧ Z a = none ∧ a ∉ S ∧ H0 a = none
  | .ownD l => ∃ a vs, v = some (.ref a) ∧ H a = some (.dK vs) ∧ DenK g Z S vs l ∧ Z a = none ∧ a ∉ S ∧ H0 a = none
def isOwn : Slot → Bool
  | .own _ => true
  | .ownD _ => true
  | _ => false
structure EnvR (g : Glob) (H0 : Hp) (Z : Hp) (S : List Addr) (σ : St) (H : Hp) (e : Env) : Prop where
  el : e.length = σ.length
  ev : ∀ (i : Nat) (x : Slot) (v : Option V), e[i]? = some x → σ[i]? = some v → SlotR g Z S H H0 v x
  od : ∀ (i j : Nat) (x y : Slot) (v : V), e[i]? = some x → e[j]? = some y → isOwn x = true → isOwn y = true → σ[i]? = some (some v) → σ[j]? = some (some v) → i = j
/-- where a def's frame began -/
structure Bs where
  S : List Addr
  Z : Hp
  H : Hp
structure Rel (g : Glob) (b : Bs) (Z : Hp) (S : List Addr) (σ : St) (H : Hp) (e : Env) (s : Sto) : Prop where
  sto : StoR g Z S H s
  env : EnvR g b.H Z S σ H e
  ext : Ext b.S b.Z b.H S Z H
section
variable {g : Glob} {b : Bs} {Z Z' : Hp} {S S' : List Addr} {σ : St} {H H' H0 : Hp} {e : Env} {s s' : Sto}
theorem notTbl_lst (xs : List V) : notTbl (.lst xs) := fun _ h => nomatch h
theorem notTbl_tup (xs : List V) : notTbl (.tup xs) := fun _ h => nomatch h
theorem notTbl_dK (xs : List (Key × V)) : notTbl (.dK xs) := fun _ h => nomatch h
theorem SlotR.ext {v : Option V} (x : Ext S Z H S' Z' H') : ∀ {t : Slot}, SlotR g Z S H H0 v t → SlotR g Z' S' H' H0 v t
  | .non, _ => trivial
  | .val _, ⟨y, e, h⟩ => ⟨y, e, x.den h⟩
  | .own _, ⟨a, vs, e, h, r, z, n, f⟩ => ⟨a, vs, e, x.hh a _ h n (notTbl_lst _), x.denL r, (by
      cases q : Z' a with
      | none => rfl
      | some o => exact absurd (x.zn a o q) (by rw [z, h]; simp)), (fun m => (x.nw a m).elim n fun q => by rw [q] at h; cases h), f⟩
  | .ownD _, ⟨a, vs, e, h, r, z, n, f⟩ => ⟨a, vs, e, x.hh a _ h n (notTbl_dK _), r.mono x.zz x.ss, (by
      cases q : Z' a with
      | none => rfl
      | some o => exact absurd (x.zn a o q) (by rw [z, h]; simp)), (fun m => (x.nw a m).elim n fun q => by rw [q] at h; cases h), f⟩
theorem EnvR.ext (r : EnvR g H0 Z S σ H e) (x : Ext S Z H S' Z' H') : EnvR g H0 Z' S' σ H' e :=
  ⟨r.el, fun i t v h1 h2 => (r.ev i t v h1 h2).ext x, r.od⟩
/-- behind an expression -/
theorem Rel.ext' (r : Rel g b Z S σ H e s) (x : Ext S Z H S' Z' H') (q : StoR g Z' S' H' s') : Rel g b Z' S' σ H' e s' :=
  ⟨q, r.env.ext x, r.ext.trans x q.sz⟩
end

/-! ### exceptions -/
/-- how an exception of the c-th class with r lies: its own dict -/
def ExR (g : Glob) (Z : Hp) (S : List Addr) (H : Hp) (r : D) : Option Addr → Prop
  | none => r = noRow
  | some x => (∃ v, H x = some (.xd [(("row" : Str), v)]) ∧ Den g Z S v r) ∧ ∀ l, r ≠ .dct l
/-! ### readings -/
abbrev M := Env → Sto → Rs D
def outE (g : Glob) (W : WX) (Z : Hp) (S : List Addr) (σ : St) (H : Hp) (c : Nat) (r : D) (s : Sto) : Prop :=
  ∀ dd Z' S' H', StoR g Z' S' H' s → Ext S Z H S' Z' H' → ExR g Z' S' H' r dd → W (.ref (g.xa c)) dd σ H'
def tM (g : Glob) (W : WX) (m : Env → Sto → Rs D) : TE := fun σ H Q => ∃ b Z S e s, Rel g b Z S σ H e s ∧ match m e s with
  | .ok d s' => ∀ v Z' S' H', StoR g Z' S' H' s' → Ext S Z H S' Z' H' → Den g Z' S' v d → Q v H'
  | .ex c r s' => outE g W Z S σ H c r s'
  | .bad => False
/-- .. lists of values -/
def tMs (g : Glob) (W : WX) (m : Env → Sto → Rs (List D)) : TA := fun σ H Q => ∃ b Z S e s, Rel g b Z S σ H e s ∧ match m e s with
  | .ok d s' => ∀ v Z' S' H', StoR g Z' S' H' s' → Ext S Z H S' Z' H' → DenL g Z' S' v d → Q v H'
  | .ex c r s' => outE g W Z S σ H c r s'
  | .bad => False
/-- .. truths -/
def tMb (g : Glob) (W : WX) (m : Env → Sto → Rs Bool) : TT := fun σ H Q => ∃ b Z S e s, Rel g b Z S σ H e s ∧ match m e s with
  | .ok d s' => ∀ Z' S' H', StoR g Z' S' H' s' → Ext S Z H S' Z' H' → Q d H'
  | .ex c r s' => outE g W Z S σ H c r s'
  | .bad => False
/-- a new list of one's own -/
def tMf (g : Glob) (W : WX) (m : Env → Sto → Rs (List D)) : TE := fun σ H Q => ∃ b Z S e s, Rel g b Z S σ H e s ∧ match m e s with
  | .ok d s' => ∀ p vs Z' S' H', StoR g Z' S' H' s' → Ext S Z H S' Z' H' → H' p = some (.lst vs) → DenL g Z' S' vs d → H p = none → Z' p = none → p ∉ S' → Q (.ref p) H'
  | .ex c r s' => outE g W Z S σ H c r s'
  | .bad => False
/-- what stands stays -/
def Gro (Z : Hp) (S : List Addr) (Z' : Hp) (S' : List Addr) : Prop := HLe Z Z' ∧ S <+: S'
theorem Gro.refl {Z : Hp} {S : List Addr} : Gro Z S Z S := ⟨HLe.refl _, List.prefix_refl _⟩
theorem Gro.trans {Z Z1 Z2 : Hp} {S S1 S2 : List Addr} (a : Gro Z S Z1 S1) (b : Gro Z1 S1 Z2 S2) : Gro Z S Z2 S2 := ⟨a.1.trans b.1, a.2.trans b.2⟩
theorem Ext.gro {S S' : List Addr} {Z H Z' H' : Hp} (x : Ext S Z H S' Z' H') : Gro Z S Z' S' := ⟨x.zz, x.ss⟩
/-- the reading of a statement -/
def tMS (g : Glob) (W : WX) (m : Env → Sto → SRs) : TS := fun D σ H => ∃ b Z S e s, Rel g b Z S σ H e s ∧ match m e s with
  | .nx e' s' => ∀ σ' Z' S' H', Rel g b Z' S' σ' H' e' s' → Gro Z S Z' S' → D.nx σ' H'
  | .bk e' s' => ∀ σ' Z' S' H', Rel g b Z' S' σ' H' e' s' → Gro Z S Z' S' → D.bk σ' H'
  | .ct e' s' => ∀ σ' Z' S' H', Rel g b Z' S' σ' H' e' s' → Gro Z S Z' S' → D.ct σ' H'
  | .rt d s' => ∀ v Z' S' H', StoR g Z' S' H' s' → Ext b.S b.Z b.H S' Z' H' → Den g Z' S' v d → D.rt v H'
  | .ex c r e' s' => ∀ dd σ' Z' S' H', Rel g b Z' S' σ' H' e' s' → Gro Z S Z' S' → ExR g Z' S' H' r dd → W (.ref (g.xa c)) dd σ' H'
  | .bad => False

/-! ### judgements, weakened -/
theorem PE.imp {X : Cx} {e : Expr} {t t' : TE} (h : PE X e t) (i : ∀ σ H Q, t' σ H Q → t σ H Q) : PE X e t' := ⟨fun pins s σ H Q I r => h.run pins s σ H Q I (i _ _ _ r)⟩
theorem PT.imp {X : Cx} {e : Expr} {t t' : TT} (h : PT X e t) (i : ∀ σ H Q, t' σ H Q → t σ H Q) : PT X e t' := ⟨fun pins s σ H Q I r => h.run pins s σ H Q I (i _ _ _ r)⟩
theorem PW.imp {X : Cx} {e : Expr} {t t' : TT} (h : PW X e t) (i : ∀ σ H Q, t' σ H Q → t σ H Q) : PW X e t' := ⟨fun wh pins s σ H Q I r => h.run wh pins s σ H Q I (i _ _ _ r)⟩
theorem PA.imp {X : Cx} {e : List Expr} {t t' : TA} (h : PA X e t) (i : ∀ σ H Q, t' σ H Q → t σ H Q) : PA X e t' := ⟨fun pos pins s σ H Q I r => h.run pos pins s σ H Q I (i _ _ _ r)⟩
theorem PS.imp {X : Cx} {e : Stmt} {t t' : TS} (h : PS X e t) (i : ∀ D σ H, t' D σ H → t D σ H) : PS X e t' := ⟨fun pins s σ H D I r => h.run pins s σ H D I (i _ _ _ r)⟩
theorem PSs.imp {X : Cx} {e : List Stmt} {t t' : TS} (h : PSs X e t) (i : ∀ D σ H, t' D σ H → t D σ H) : PSs X e t' := ⟨fun pins s σ H D I r => h.run pins s σ H D I (i _ _ _ r)⟩

section
variable {g : Glob} {W : WX} {X : Cx}
/-- one after another: the state behind the first is a state for the second -/
theorem outE.back {Z Z1 : Hp} {S S1 : List Addr} {σ : St} {H H1 : Hp} {c : Nat} {r : D} {s : Sto} (x : Ext S Z H S1 Z1 H1) (h : outE g W Z S σ H c r s) : outE g W Z1 S1 σ H1 c r s :=
  fun dd Z' S' H' q y er => h dd Z' S' H' q (x.trans y q.sz) er
/-- the general step: m1, then k -/
theorem tM_bind {α : Type} {m1 : M} {k : D → Sto → Rs α} {b : Bs} {Z : Hp} {S : List Addr} {e : Env} {s : Sto} {σ : St} {H : Hp} {Q : VK} {post : Rs α → Prop}
    (r : Rel g b Z S σ H e s) (hp : post ((m1 e s).bind k)) (hb : post .bad → False) (hx : ∀ c d s', post (.ex c d s') → outE g W Z S σ H c d s')
    (hk : ∀ d s' v Z' S' H', post (k d s') → Rel g b Z' S' σ H' e s' → Ext S Z H S' Z' H' → Den g Z' S' v d → Q v H') : tM g W m1 σ H Q := by
  refine ⟨b, Z, S, e, s, r, ?_⟩
  cases h : m1 e s with
  | ok d s' =>
    rw [h] at hp
    exact fun v Z' S' H' q x dn => hk d s' v Z' S' H' hp (r.ext' x q) x dn
  | ex c d s' => rw [h] at hp; exact hx c d s' hp
  | bad => rw [h] at hp; exact hb hp
end
end Ms

set_option Elab.async false
set_option linter.all false
set_option autoImplicit false
set_option maxRecDepth 100000
set_option maxHeartbeats 1000000
namespace Ms
open PySem PySem.Spec L2
open PyProof.Rows hiding St

/-- the context of a code of ours -/
structure GoodX (g : Glob) (k : Nat) (N : List Str) (sc : Scope) (W : WX) (X : Cx) : Prop where
  hP : X.prog = g.P
  hw : X.w = g.w
  hK : X.K = g.K
  hmg : X.mg = g.mg
  hbase : X.base = g.base
  hN : X.N = N
  nd : N.Nodup
  hsc : X.env.scope = sc
  calm : X.calm = true
  room : Room (4 * k + 1) X.A
  tk : L2N.Takes X W

section
variable {g : Glob} {k : Nat} {N : List Str} {sc : Scope} {W : WX} {X : Cx} {Z Z' : Hp} {S S' : List Addr} {σ : St} {H H' : Hp} {s s' : Sto} {e : Env} {b : Bs}
theorem GoodX.hu (G : GoodX g k N sc W X) : X.A.units + 64 < cLine := G.room.units
theorem SqT.up {a : Addr} {xs : List V} (h : SqT g.K Z a xs) (G : GoodX g k N sc W X) (q : StoR g Z S H s) : SqT X.K H a xs := by rw [G.hK]; exact SqT.le h q.z
theorem SqL.up {a : Addr} {xs : List V} (h : SqL g.K Z a xs) (G : GoodX g k N sc W X) (q : StoR g Z S H s) : SqL X.K H a xs := by rw [G.hK]; exact SqL.le h q.z

/-! ### new things -/
theorem upd_le {H : Hp} {p : Addr} {o : HO} (n : H p = none) : HLe H (upd H p o) := fun a u h => by
  rw [upd_ne (ne_of_none h n)]; exact h
/-- a list, a tuple, a dict is laid at a free place: frozen -/
theorem lay (q : StoR g Z S H s) {p : Addr} {o : HO} (n : H p = none) (t : notTbl o) : StoR g (upd Z p o) S (upd H p o) s ∧ Ext S Z H S (upd Z p o) (upd H p o) := by
  have zp : Z p = none := by
    cases h : Z p with
    | none => rfl
    | some u => rw [q.z _ _ h] at n; cases n
  have ns : p ∉ S := fun m => by
    obtain ⟨i, hi, e⟩ := List.getElem_of_mem m
    have hs : i < s.length := by rw [q.sl]; exact hi
    have := q.st i s[i] p (List.getElem?_eq_getElem hs) (by rw [List.getElem?_eq_getElem hi, e])
    revert this
    cases s[i] with
    | lst l => rintro ⟨vs, h, _⟩; rw [n] at h; cases h
    | ins c fs => rintro ⟨dx, vs, h, _⟩; rw [n] at h; cases h
  have zz : HLe Z (upd Z p o) := upd_le zp
  have hh : HLe H (upd H p o) := upd_le n
  refine ⟨⟨fun a u h => ?_, q.sl, fun i c a h1 h2 => ?_, q.sd, fun a m => ?_, LamX.Tabs.ext q.tb hh, fun a u h => by
      by_cases ea : a = p
      · rw [ea, upd_same] at h; injection h with h; rw [← h]; exact t
      · rw [upd_ne ea] at h; exact q.zt a u h⟩, ⟨zz, List.prefix_refl _, fun a u h _ _ => hh _ _ h, fun a ps h => ⟨ps, hh _ _ h⟩, fun a m => .inl m, fun a u h => ?_⟩⟩
  · by_cases e : a = p
    · subst e; rw [upd_same] at h ⊢; exact h
    · rw [upd_ne e] at h ⊢; exact q.z _ _ h
  · have := q.st i c a h1 h2
    revert this
    cases c with
    | lst l => rintro ⟨vs, h, r⟩; exact ⟨vs, hh _ _ h, r.mono zz (List.prefix_refl _)⟩
    | ins c fs =>
      rintro ⟨dx, vs, h, r⟩
      refine ⟨dx, vs, hh _ _ h, ?_⟩
      clear h h1
      induction r with
      | nil => exact .nil
      | cons d _ ih => exact .cons (d.mono zz (List.prefix_refl _)) ih
  · rw [upd_ne (by intro e; subst e; exact ns m)]; exact q.sz a m
  · by_cases e : a = p
    · subst e; exact .inr n
    · rw [upd_ne e] at h; exact .inl h
/-- .. of one's own -/
theorem layO (q : StoR g Z S H s) {p : Addr} {o : HO} (n : H p = none) (t : notTbl o) : StoR g Z S (upd H p o) s ∧ Ext S Z H S Z (upd H p o) ∧ Z p = none ∧ p ∉ S := by
  obtain ⟨q1, x1⟩ := lay q n t
  have zp : Z p = none := by
    cases h : Z p with
    | none => rfl
    | some u => rw [q.z _ _ h] at n; cases n
  have hh : HLe H (upd H p o) := upd_le n
  have ns : p ∉ S := fun m => by have := q1.sz p m; rw [upd_same] at this; cases this
  refine ⟨⟨fun a u h => hh _ _ (q.z _ _ h), q.sl, fun i c a h1 h2 => ?_, q.sd, q.sz, LamX.Tabs.ext q.tb hh, q.zt⟩, ⟨HLe.refl _, List.prefix_refl _, x1.hh, x1.tt, x1.nw, fun a u h => .inl h⟩, zp, ns⟩
  have := q.st i c a h1 h2
  revert this
  cases c with
  | lst l => rintro ⟨vs, h, r⟩; exact ⟨vs, hh _ _ h, r⟩
  | ins c fs => rintro ⟨dx, vs, h, r⟩; exact ⟨dx, vs, hh _ _ h, r⟩

/-! ### the reading of two, by their values -/
/-- what an operation on values must bear: f on data, r on the heap -/
def Does1 (g : Glob) (f : D → Sto → Option D) (r : V → Hp → VK → Prop) : Prop :=
  ∀ Z S H s x a d Q, StoR g Z S H s → Den g Z S x a → f a s = some d → (∀ v Z' S' H', StoR g Z' S' H' s → Ext S Z H S' Z' H' → Den g Z' S' v d → Q v H') → r x H Q
def Does2 (g : Glob) (f : D → D → Sto → Option D) (r : R2) : Prop :=
  ∀ Z S H s x y a b d Q, StoR g Z S H s → Den g Z S x a → Den g Z S y b → f a b s = some d → (∀ v Z' S' H', StoR g Z' S' H' s → Ext S Z H S' Z' H' → Den g Z' S' v d → Q v H') → r x y H Q
theorem tM_un {m : M} {f : D → Sto → Option D} {r : V → Hp → VK → Prop} (hd : Does1 g f r) {Q : VK} (h : tM g W (fun e s => (m e s).bind fun x s => Rs.of (f x s) s) σ H Q) : tUn r (tM g W m) σ H Q := by
  obtain ⟨b, Z, S, e, s, R, h⟩ := h
  refine tM_bind (post := fun r => match r with
    | .ok d s' => ∀ v Z' S' H', StoR g Z' S' H' s' → Ext S Z H S' Z' H' → Den g Z' S' v d → Q v H'
    | .ex c r s' => outE g W Z S σ H c r s'
    | .bad => False) R h (fun h => h) (fun c d s' h => h) ?_
  intro d s' v Z' S' H' hp R' x dn
  cases q : f d s' with
  | none => rw [q] at hp; exact hp.elim
  | some d' =>
    rw [q] at hp
    exact hd _ _ _ _ _ _ _ _ R'.sto dn q fun v' Z2 S2 H2 q2 x2 d2 => hp v' Z2 S2 H2 q2 (x.trans x2 q2.sz) d2
theorem tM_op {m1 m2 : M} {f : D → D → Sto → Option D} {r : R2} (hd : Does2 g f r) {Q : VK} (h : tM g W (fun e s => (m1 e s).bind fun x s => (m2 e s).bind fun y s => Rs.of (f x y s) s) σ H Q) : tOp r (tM g W m1) (tM g W m2) σ H Q := by
  obtain ⟨b, Z, S, e, s, R, h⟩ := h
  refine tM_bind (post := fun r => match r with
    | .ok d s' => ∀ v Z' S' H', StoR g Z' S' H' s' → Ext S Z H S' Z' H' → Den g Z' S' v d → Q v H'
    | .ex c r s' => outE g W Z S σ H c r s'
    | .bad => False) R h (fun h => h) (fun c d s' h => h) ?_
  intro d s1 v Z1 S1 H1 hp R1 x1 dn
  refine tM_bind (post := fun r => match r with
    | .ok d s' => ∀ v Z' S' H', StoR g Z' S' H' s' → Ext S Z H S' Z' H' → Den g Z' S' v d → Q v H'
    | .ex c r s' => outE g W Z S σ H c r s'
    | .bad => False) R1 hp (fun h => h) (fun c d s' h => outE.back x1 h) ?_
  intro d2 s2 v2 Z2 S2 H2 hp R2 x2 dn2
  cases q : f d d2 s2 with
  | none => rw [q] at hp; exact hp.elim
  | some d' =>
    rw [q] at hp
    exact hd _ _ _ _ _ _ _ _ _ _ R2.sto (x2.den dn) dn2 q fun v' Z3 S3 H3 q3 x3 d3 => hp v' Z3 S3 H3 q3 ((x1.trans x2 R2.sto.sz).trans x3 q3.sz) d3

/-! ### names, constants -/
theorem pe_v (G : GoodX g k N sc W X) {i : Nat} {x : Str} {pos : Pos} (hN : N[i]? = some x) (hv : Vis sc x) (hd : (x == ("__debug__" : Str)) = false) (hcd : (x == ("__classdict__" : Str)) = false) : PE X (.Name x pos) (tM g W fun e s => Rs.of (e.get i) s) := by
  refine PE.imp (pe_var (i := i) (by rw [G.hN]; exact hN) (by rw [G.hsc]; exact hv) hd hcd) ?_
  rintro σ H Q ⟨b, Z, S, e, s, R, h⟩
  have hg : ∃ d, e[i]? = some (.val d) ∧ Rs.of (e.get i) s = Rs.ok d s := by
    dsimp only [Env.get] at h ⊢
    cases q : e[i]? with
    | none => rw [q] at h; exact h.elim
    | some t =>
      rw [q] at h
      cases t with
      | val d => exact ⟨d, rfl, rfl⟩
      | _ => exact h.elim
  obtain ⟨d, hi, hr⟩ := hg
  dsimp only at h
  rw [hr] at h
  have hl : i < σ.length := by rw [← R.env.el]; exact (List.getElem?_eq_some_iff.mp hi).1
  obtain ⟨v, hv, dn⟩ := R.env.ev i _ _ hi (List.getElem?_eq_getElem hl)
  exact ⟨v, by rw [List.getElem?_eq_getElem hl, hv], h v Z S H R.sto .refl dn⟩
theorem pe_kc (G : GoodX g k N sc W X) {x : Expr} {v : V} {d : D} (hp : PE X x (tC v)) (hd : ∀ Z S, Den g Z S v d) : PE X x (tM g W fun _ s => .ok d s) := by
  refine PE.imp hp ?_
  rintro σ H Q ⟨b, Z, S, e, s, R, h⟩
  exact h v Z S H R.sto .refl (hd Z S)

/-! ### arithmetic -/
theorem strV_inj {a b : List Nat} (h : strV a = strV b) : a = b := by
  unfold strV at h
  injection h with h
  injection h with h
  simpa using h
end
end Ms

set_option Elab.async false
set_option linter.all false
set_option autoImplicit false
set_option maxRecDepth 100000
set_option maxHeartbeats 1000000
namespace Ms
open PySem PySem.Spec L2 SX
open PyProof.Rows hiding St
section
variable {g : Glob} {k : Nat} {N : List Str} {sc : Scope} {W : WX} {X : Cx} {Z Z' : Hp} {S S' : List Addr} {σ : St} {H H' : Hp} {s s' : Sto} {e : Env} {b : Bs}
theorem lim_line : lim = sizeLine := rfl
theorem okS_app {a b : List Nat} (x : okS a) (y : okS b) : okS (a ++ b) := fun c h => (List.mem_append.mp h).elim (x c) (y c)
theorem strS (a : List Nat) : strV a = .str (SX.S a) := rfl

/-- + -/
def rAddU (K : PySem.W.Frag) : R2 := fun x y H Q =>
  (rI0 (fun i j => .int (i + j)) x y H Q ∨ (∃ i j, x = .str i ∧ y = .str j ∧ i.length + j.length ≤ sizeLine ∧ Q (.str (i ++ j)) H)) ∨ rCatA K x y H Q
theorem op_addU : OpR X (binaryOp .Add) (rAddU X.K) := OpR.or (OpR.or op_add op_add_str) op_catA
theorem does_add (G : GoodX g k N sc W X) : Does2 g (fun a b _ => binop .add a b) (rAddU X.K) := by
  intro Z S H s x y a b d Q q hx hy hf hk
  cases hx with
  | int i =>
    cases hy with
    | int j =>
      simp only [binop, Option.some.injEq] at hf
      subst hf
      exact .inl (.inl ⟨i, j, rfl, rfl, hk _ Z S H q .refl (.int _)⟩)
    | _ => simp [binop] at hf
  | str a ha =>
    cases hy with
    | str c hc =>
      simp only [binop] at hf
      split at hf
      · rename_i hl
        simp only [Option.some.injEq] at hf
        subst hf
        refine .inl (.inr ⟨_, _, rfl, rfl, ?_, ?_⟩)
        · rw [SX.S_len, SX.S_len]; exact of_decide_eq_true hl
        · have := hk _ Z S H q .refl (.str (a ++ c) (okS_app ha hc))
          rwa [strS, ← SX.S_cat] at this
      · cases hf
    | _ => simp [binop] at hf
  | @tup p xs ds h1 r1 =>
    cases hy with
    | @tup p2 ys es h2 r2 =>
      simp only [binop] at hf
      split at hf
      · rename_i hl
        simp only [Option.some.injEq] at hf
        subst hf
        refine .inr ⟨p, p2, xs, ys, rfl, rfl, SqT.up h1 G q, SqT.up h2 G q, ?_, ?_, ?_, ?_⟩
        · rw [r1.length, r2.length]; exact of_decide_eq_true hl
        · rintro rfl
          cases r1
          exact hk _ Z S H q .refl (.tup h2 r2)
        · rintro _ rfl
          cases r2
          simp only [List.append_nil] at hk
          exact hk _ Z S H q .refl (.tup h1 r1)
        · intro _ _ p3 n
          obtain ⟨q1, x1⟩ := lay q n (notTbl_tup (xs ++ ys))
          exact hk _ _ _ _ q1 x1 (.tup (.inl (Rd.of upd_same)) (x1.denL (r1.append r2)))
      · cases hf
    | _ => simp [binop] at hf
  | _ => cases hy <;> simp [binop] at hf
theorem does_sub : Does2 g (fun a b _ => binop .sub a b) (rI0 fun i j => .int (i - j)) := by
  intro Z S H s x y a b d Q q hx hy hf hk
  cases hx with
  | int i =>
    cases hy with
    | int j =>
      simp only [binop, Option.some.injEq] at hf
      subst hf
      exact ⟨i, j, rfl, rfl, hk _ Z S H q .refl (.int _)⟩
    | _ => simp [binop] at hf
  | _ => cases hy <;> simp [binop] at hf
theorem does_fdiv : Does2 g (fun a b _ => binop .fdiv a b) (rI CDiv fun i j => .int (i / j)) := by
  intro Z S H s x y a b d Q q hx hy hf hk
  cases hx with
  | int i =>
    cases hy with
    | int j =>
      simp only [binop] at hf
      split at hf
      · rename_i h
        simp only [Bool.and_eq_true, decide_eq_true_eq] at h
        simp only [Option.some.injEq] at hf
        subst hf
        exact ⟨i, j, rfl, rfl, by simp only [CDiv]; omega, hk _ Z S H q .refl (.int _)⟩
      · cases hf
    | _ => simp [binop] at hf
  | _ => cases hy <;> simp [binop] at hf
theorem does_mod : Does2 g (fun a b _ => binop .mod a b) (rI (fun _ j => 0 < j) fun i j => .int (i % j)) := by
  intro Z S H s x y a b d Q q hx hy hf hk
  cases hx with
  | int i =>
    cases hy with
    | int j =>
      simp only [binop] at hf
      split at hf
      · rename_i h
        simp only [Option.some.injEq] at hf
        subst hf
        exact ⟨i, j, rfl, rfl, of_decide_eq_true h, hk _ Z S H q .refl (.int _)⟩
      · cases hf
    | _ => simp [binop] at hf
  | _ => cases hy <;> simp [binop] at hf
theorem does_pow : Does2 g (fun a b _ => binop .pow a b) (rI CPow fun i j => .int (i ^ j.toNat)) := by
  intro Z S H s x y a b d Q q hx hy hf hk
  cases hx with
  | int i =>
    cases hy with
    | int j =>
      simp only [binop] at hf
      split at hf
      · rename_i h
        simp only [Bool.and_eq_true, decide_eq_true_eq] at h
        simp only [Option.some.injEq] at hf
        subst hf
        exact ⟨i, j, rfl, rfl, ⟨h.1.1, h.1.2, h.2⟩, hk _ Z S H q .refl (.int _)⟩
      · cases hf
    | _ => simp [binop] at hf
  | _ => cases hy <;> simp [binop] at hf
/-- * of ints -/
def binopM (a b : D) : Option D := match a with
  | .int _ => binop .mul a b
  | _ => none
theorem does_mul : Does2 g (fun a b _ => binopM a b) (rI CMul fun i j => .int (i * j)) := by
  intro Z S H s x y a b d Q q hx hy hf hk
  cases hx with
  | int i =>
    cases hy with
    | int j =>
      simp only [binopM, binop, small] at hf
      split at hf
      · rename_i h
        simp only [Bool.and_eq_true, Bool.or_eq_true, decide_eq_true_eq] at h
        simp only [Option.some.injEq] at hf
        subst hf
        exact ⟨i, j, rfl, rfl, by simp only [CMul]; omega, hk _ Z S H q .refl (.int _)⟩
      · cases hf
    | _ => simp [binopM, binop] at hf
  | _ => simp [binopM] at hf

/-! ### comparisons -/
mutual
def toPy : D → PyData
  | .non => .none
  | .bl b => .bool b
  | .int i => .int i
  | .str x => .str ⟨x.toArray⟩
  | .tup l => .tuple (toPyL l)
  | .lst l => .list (toPyL l)
  | _ => .none
def toPyL : List D → List PyData
  | [] => []
  | x :: r => toPy x :: toPyL r
end
mutual
theorem den_dp (hz : HLe Z H) : ∀ {v : V} {d : D}, Den g Z S v d → d.plain = true → Dp g.K H v (toPy d)
  | _, _, .non, _ => .non
  | _, _, .bl b, _ => .bl b
  | _, _, .int i, _ => .int i
  | _, _, .str s _, _ => .str _
  | _, _, .tup h r, p => .tup (SqT.le h hz) (denL_dp hz r (by simpa [D.plain] using p))
  | _, _, .lst h r, p => .lst (.inl (Rd.of (hz _ _ h))) (denL_dp hz r (by simpa [D.plain] using p))
  | _, _, .dct _ _, p => by simp [D.plain] at p
  | _, _, .kdct _ _, p => by simp [D.plain] at p
  | _, _, .obj _, p => by simp [D.plain] at p
  | _, _, .fn _ _, p => by simp [D.plain] at p
  | _, _, .frz _, p => by simp [D.plain] at p
theorem denL_dp (hz : HLe Z H) : ∀ {vs : List V} {ds : List D}, DenL g Z S vs ds → D.plainL ds = true → DpAll g.K H vs (toPyL ds)
  | _, _, .nil, _ => .nil
  | _, _, .cons h r, p => by
    simp only [D.plainL, Bool.and_eq_true] at p
    exact .cons (den_dp hz h p.1) (denL_dp hz r p.2)
end
mutual
theorem den_lay : ∀ {v : V} {d : D}, Den g Z S v d → d.plain = true → (toPy d).canLay0 = true
  | _, _, .non, _ => rfl
  | _, _, .bl b, _ => rfl
  | _, _, .int i, _ => rfl
  | _, _, .str s h, _ => by
    show (s.toArray.all fun c => decide (c < 1114112)) = true
    rw [List.all_toArray, List.all_eq_true]
    exact fun c hc => decide_eq_true (h c hc)
  | _, _, .tup h r, p => by
    have := denL_lay r (by simpa [D.plain] using p)
    simpa [toPy, PyData.canLay0] using this
  | _, _, .lst h r, p => by
    have := denL_lay r (by simpa [D.plain] using p)
    simpa [toPy, PyData.canLay0] using this
  | _, _, .dct _ _, p => by simp [D.plain] at p
  | _, _, .kdct _ _, p => by simp [D.plain] at p
  | _, _, .obj _, p => by simp [D.plain] at p
  | _, _, .fn _ _, p => by simp [D.plain] at p
  | _, _, .frz _, p => by simp [D.plain] at p
theorem denL_lay : ∀ {vs : List V} {ds : List D}, DenL g Z S vs ds → D.plainL ds = true → PyData.canLayAll0 (toPyL ds) = true
  | _, _, .nil, _ => rfl
  | _, _, .cons h r, p => by
    simp only [D.plainL, Bool.and_eq_true] at p
    simp only [toPyL, PyData.canLayAll0, Bool.and_eq_true]
    exact ⟨den_lay h p.1, denL_lay r p.2⟩
end
mutual
theorem depth_py : ∀ d : D, d.plain = true → (toPy d).depth = d.depth
  | .non, _ => rfl
  | .bl _, _ => rfl
  | .int _, _ => rfl
  | .str _, _ => rfl
  | .tup l, p => by
    simp only [toPy, PyData.depth, D.depth]
    rw [depthL_py l (by simpa [D.plain] using p)]
  | .lst l, p => by
    simp only [toPy, PyData.depth, D.depth]
    rw [depthL_py l (by simpa [D.plain] using p)]
  | .dct _, p => by simp [D.plain] at p
  | .obj _, p => by simp [D.plain] at p
  | .fn _, p => by simp [D.plain] at p
  | .frz _, p => by simp [D.plain] at p
theorem depthL_py : ∀ l : List D, D.plainL l = true → PyData.depthAll (toPyL l) = D.depthL l
  | [], _ => rfl
  | x :: r, p => by
    simp only [D.plainL, Bool.and_eq_true] at p
    simp only [toPyL, PyData.depthAll, D.depthL]
    rw [depth_py x p.1, depthL_py r p.2]
end
mutual
theorem eqv_py : ∀ a b : D, a.plain = true → b.plain = true → PyData.eqv (toPy a) (toPy b) = a.eqv b
  | .non, b, _, pb => by cases b <;> simp_all [toPy, PyData.eqv, D.eqv, D.plain]
  | .bl x, b, _, pb => by cases b <;> simp_all [toPy, PyData.eqv, D.eqv, D.plain] <;> (cases x <;> rfl)
  | .int x, b, _, pb => by
    cases b with
    | bl y => cases y <;> rfl
    | _ => simp_all [toPy, PyData.eqv, D.eqv, D.plain]
  | .str x, b, _, pb => by
    cases b with
    | str y =>
      simp only [toPy, PyData.eqv, D.eqv]
      exact SX.S_beq x y
    | _ => simp_all [toPy, PyData.eqv, D.eqv, D.plain]
  | .tup x, b, pa, pb => by
    cases b with
    | tup y =>
      simp only [toPy, PyData.eqv, D.eqv]
      exact eqvL_py x y (by simpa [D.plain] using pa) (by simpa [D.plain] using pb)
    | _ => simp_all [toPy, PyData.eqv, D.eqv, D.plain]
  | .lst x, b, pa, pb => by
    cases b with
    | lst y =>
      simp only [toPy, PyData.eqv, D.eqv]
      exact eqvL_py x y (by simpa [D.plain] using pa) (by simpa [D.plain] using pb)
    | _ => simp_all [toPy, PyData.eqv, D.eqv, D.plain]
  | .dct _, _, p, _ => by simp [D.plain] at p
  | .obj _, _, p, _ => by simp [D.plain] at p
  | .fn _, _, p, _ => by simp [D.plain] at p
  | .frz _, _, p, _ => by simp [D.plain] at p
theorem eqvL_py : ∀ a b : List D, D.plainL a = true → D.plainL b = true → PyData.eqvAll (toPyL a) (toPyL b) = D.eqvL a b
  | [], [], _, _ => rfl
  | [], _ :: _, _, _ => rfl
  | _ :: _, [], _, _ => rfl
  | x :: xs, y :: ys, pa, pb => by
    simp only [D.plainL, Bool.and_eq_true] at pa pb
    simp only [toPyL, PyData.eqvAll, D.eqvL]
    rw [eqv_py x y pa.1 pb.1, eqvL_py xs ys pa.2 pb.2]
end
theorem shaped_py {v : V} {d : D} (h : Den g Z S v d) (o : okEq d = true) : SeqAt.shaped (toPy d) = true := by
  unfold okEq at o
  simp only [Bool.and_eq_true, decide_eq_true_eq] at o
  unfold SeqAt.shaped
  simp only [Bool.and_eq_true, decide_eq_true_eq]
  exact ⟨den_lay h o.1, by rw [depth_py d o.1]; exact o.2⟩
/-- a stored list as it is now -/
theorem der_den (q : StoR g Z S H s) {v : V} {d : D} (h : Den g Z S v d) (n : ∀ i, der s d ≠ .obj i) :
    Den g Z S v (der s d) ∨ ∃ a vs l, v = .ref a ∧ der s d = .lst l ∧ H a = some (.lst vs) ∧ DenL g Z S vs l := by
  cases d with
  | obj i =>
    cases h with
    | @obj _ a e =>
      cases c : s[i]? with
      | none => exact absurd (show der s (.obj i) = .obj i by simp only [der, Sto.list, c]) (n i)
      | some t =>
        cases t with
        | lst l =>
          obtain ⟨vs, h1, r⟩ := q.st i _ a c e
          exact .inr ⟨a, vs, l, rfl, by simp only [der, Sto.list, c], h1, r⟩
        | ins cc fs => exact absurd (show der s (.obj i) = .obj i by simp only [der, Sto.list, c]) (n i)
  | _ => exact .inl h
theorem den_dp' (q : StoR g Z S H s) {v : V} {d : D} (h : Den g Z S v d) (p : okEq (der s d) = true) : Dp g.K H v (toPy (der s d)) ∧ SeqAt.shaped (toPy (der s d)) = true := by
  have n : ∀ i, der s d ≠ .obj i := fun i e => by rw [e] at p; simp [okEq, D.plain] at p
  rcases der_den q h n with h1 | ⟨a, vs, l, rfl, e, ha, r⟩
  · have pp := p
    unfold okEq at pp
    simp only [Bool.and_eq_true] at pp
    exact ⟨den_dp q.z h1 pp.1, shaped_py h1 p⟩
  · rw [e] at p ⊢
    have pp := p
    unfold okEq at pp
    simp only [Bool.and_eq_true, D.plain, decide_eq_true_eq] at pp
    refine ⟨.lst (.inl (Rd.of ha)) (denL_dp q.z r pp.1), ?_⟩
    have h64 : (toPy (.lst l)).depth ≤ 64 := by rw [depth_py (.lst l) (by simpa [D.plain] using pp.1)]; exact pp.2
    exact Bool.and_eq_true_iff.mpr ⟨(show (toPy (.lst l)).canLay0 = true by simpa [toPy, PyData.canLay0] using denL_lay r pp.1), decide_eq_true h64⟩
def cmpB (o : COp) (a b : D) (s : Sto) : Option D := (cmpop o (der s a) (der s b)).map D.bl
theorem does_eq (G : GoodX g k N sc W X) : Does2 g (cmpB .eq) (rEqD X.K) := by
  intro Z S H s x y a b d Q q hx hy hf hk
  simp only [cmpB, cmpop, pyEq] at hf
  split at hf
  · rename_i h
    simp only [Bool.and_eq_true] at h
    simp only [Option.map_some, Option.some.injEq] at hf
    subst hf
    obtain ⟨d1, s1⟩ := den_dp' q hx h.1
    obtain ⟨d2, s2⟩ := den_dp' q hy h.2
    rw [G.hK]
    refine ⟨_, _, d1, d2, s1, s2, ?_⟩
    rw [eqv_py _ _ (by have := h.1; unfold okEq at this; simp only [Bool.and_eq_true] at this; exact this.1) (by have := h.2; unfold okEq at this; simp only [Bool.and_eq_true] at this; exact this.1)]
    exact hk _ Z S H q .refl (.bl _)
  · cases hf
theorem does_ne (G : GoodX g k N sc W X) : Does2 g (cmpB .ne) (rNeD X.K) := by
  intro Z S H s x y a b d Q q hx hy hf hk
  simp only [cmpB, cmpop, pyEq] at hf
  split at hf
  · rename_i h
    simp only [Bool.and_eq_true] at h
    simp only [Option.map_some, Option.some.injEq] at hf
    subst hf
    obtain ⟨d1, s1⟩ := den_dp' q hx h.1
    obtain ⟨d2, s2⟩ := den_dp' q hy h.2
    rw [G.hK]
    refine ⟨_, _, d1, d2, s1, s2, ?_⟩
    rw [eqv_py _ _ (by have := h.1; unfold okEq at this; simp only [Bool.and_eq_true] at this; exact this.1) (by have := h.2; unfold okEq at this; simp only [Bool.and_eq_true] at this; exact this.1)]
    exact hk _ Z S H q .refl (.bl _)
  · cases hf
end
end Ms

set_option Elab.async false
set_option linter.all false
set_option autoImplicit false
set_option maxRecDepth 100000
set_option maxHeartbeats 1000000
namespace Ms
open PySem PySem.Spec L2 SX
open PyProof.Rows hiding St
section
variable {g : Glob} {k : Nat} {N : List Str} {sc : Scope} {W : WX} {X : Cx} {Z Z' : Hp} {S S' : List Addr} {σ : St} {H H' : Hp} {s s' : Sto} {e : Env} {b : Bs}
/-- a list that may be read: frozen, stored -/
def LstAt (g : Glob) (Z : Hp) (S : List Addr) (H : Hp) (v : V) (l : List D) : Prop := ∃ a vs, v = .ref a ∧ H a = some (.lst vs) ∧ DenL g Z S vs l
def TupAt (g : Glob) (Z : Hp) (S : List Addr) (v : V) (l : List D) : Prop := ∃ a vs, v = .ref a ∧ SqT g.K Z a vs ∧ DenL g Z S vs l
theorem lst_of (q : StoR g Z S H s) {v : V} {d : D} {l : List D} (h : Den g Z S v d) (e : der s d = .lst l) : LstAt g Z S H v l := by
  rcases der_den q h (fun i q => by rw [e] at q; cases q) with h1 | ⟨a, vs, l', rfl, e', ha, r⟩
  · rw [e] at h1
    cases h1 with
    | lst h2 r => exact ⟨_, _, rfl, q.z _ _ h2, r⟩
  · rw [e] at e'
    injection e' with e'
    subst e'
    exact ⟨a, vs, rfl, ha, r⟩
theorem tup_of {v : V} {l : List D} (h : Den g Z S v (.tup l)) : TupAt g Z S v l := by
  cases h with
  | tup h r => exact ⟨_, _, rfl, h, r⟩
theorem der_obj {d : D} {t : D} (h : der s d = t) (n : ∀ i, t ≠ .obj i) (l : ∀ x, t ≠ .lst x) : d = t := by
  cases d with
  | obj i =>
    unfold der at h
    dsimp only at h
    cases c : s.list i with
    | none => rw [c] at h; exact absurd h.symm (n i)
    | some x => rw [c] at h; exact absurd h.symm (l x)
  | _ => exact h
theorem tup_der {v : V} {d : D} {l : List D} (h : Den g Z S v d) (e : der s d = .tup l) : TupAt g Z S v l := by
  have := der_obj e (fun _ q => nomatch q) (fun _ q => nomatch q)
  subst this
  exact tup_of h
/-! ### order of ints -/
theorem does_lt : Does2 g (fun a b s => match a, b with | .int _, .int _ => cmpB .lt a b s | _, _ => none) (rI0 fun i j => .bl (decide (i < j))) := by
  intro Z S H s x y a b d Q q hx hy hf hk
  cases hx with
  | int i =>
    cases hy with
    | int j =>
      simp only [cmpB, cmpop, der, Option.map_some, Option.some.injEq] at hf
      subst hf
      exact ⟨i, j, rfl, rfl, hk _ Z S H q .refl (.bl _)⟩
    | _ => simp at hf
  | _ => simp at hf
theorem does_le : Does2 g (fun a b s => match a, b with | .int _, .int _ => cmpB .le a b s | _, _ => none) (rI0 fun i j => .bl (decide (i ≤ j))) := by
  intro Z S H s x y a b d Q q hx hy hf hk
  cases hx with
  | int i =>
    cases hy with
    | int j =>
      simp only [cmpB, cmpop, der, Option.map_some, Option.some.injEq] at hf
      subst hf
      exact ⟨i, j, rfl, rfl, hk _ Z S H q .refl (.bl _)⟩
    | _ => simp at hf
  | _ => simp at hf
theorem does_gt : Does2 g (fun a b s => match a, b with | .int _, .int _ => cmpB .gt a b s | _, _ => none) (rI0 fun i j => .bl (decide (j < i))) := by
  intro Z S H s x y a b d Q q hx hy hf hk
  cases hx with
  | int i =>
    cases hy with
    | int j =>
      simp only [cmpB, cmpop, der, Option.map_some, Option.some.injEq] at hf
      subst hf
      exact ⟨i, j, rfl, rfl, hk _ Z S H q .refl (.bl _)⟩
    | _ => simp at hf
  | _ => simp at hf
theorem does_ge : Does2 g (fun a b s => match a, b with | .int _, .int _ => cmpB .ge a b s | _, _ => none) (rI0 fun i j => .bl (decide (j ≤ i))) := by
  intro Z S H s x y a b d Q q hx hy hf hk
  cases hx with
  | int i =>
    cases hy with
    | int j =>
      simp only [cmpB, cmpop, der, Option.map_some, Option.some.injEq] at hf
      subst hf
      exact ⟨i, j, rfl, rfl, hk _ Z S H q .refl (.bl _)⟩
    | _ => simp at hf
  | _ => simp at hf
/-! ### in, not in -/
theorem flat_v {v : V} {d : D} (h : Den g Z S v d) (f : d.flat = true) : flatV v = true := by
  cases h <;> first | rfl | simp [D.flat] at f
theorem eqv_v {v w' : V} {d t : D} (h : Den g Z S v d) (h2 : Den g Z S w' t) (f : d.flat = true) (f2 : t.flat = true) : eqV v w' = d.eqv t := by
  cases h with
  | non => cases h2 <;> first | rfl | simp [D.flat] at f2
  | bl b => cases h2 <;> first | rfl | (cases b <;> rfl) | simp [D.flat] at f2
  | int i => cases h2 <;> first | rfl | (rename_i b; cases b <;> rfl) | simp [D.flat] at f2
  | str x hx =>
    cases h2 with
    | str y hy => simp only [strV, eqV, D.eqv]; exact SX.S_beq x y
    | _ => first | rfl | simp [D.flat] at f2
  | _ => simp [D.flat] at f
theorem mem_v {w' : V} {t : D} (h2 : Den g Z S w' t) (f2 : t.flat = true) : ∀ {vs : List V} {ds : List D} {b : Bool}, DenL g Z S vs ds → memD t ds = some b → vs.all flatV = true ∧ inV w' vs = b
  | _, _, b, .nil, m => by
    simp only [memD, Option.some.injEq] at m
    subst m
    exact ⟨rfl, rfl⟩
  | _, _, b, .cons (v := v) (d := d) (vs := vs) (ds := ds) h r, m => by
    simp only [memD] at m
    cases f : d.flat with
    | false => rw [f] at m; cases m
    | true =>
      rw [f] at m
      cases c : memD t ds with
      | none => rw [c] at m; cases m
      | some b' =>
        rw [c] at m
        simp only [Option.some.injEq] at m
        obtain ⟨h3, h4⟩ := mem_v h2 f2 r c
        refine ⟨by simp [flat_v h f, h3], ?_⟩
        unfold inV at h4 ⊢
        rw [List.any_cons, h4, eqv_v h h2 f f2]
        exact m
/-- keys -/
theorem key_v {v : V} {d : D} (h : Den g Z S v d) (f : (match d with | .str _ | .int _ => true | _ => false) = true) : ∃ kk : Key, v = kV kk ∧ keyD kk d := by
  cases h with
  | int i => exact ⟨.inl i, rfl, rfl⟩
  | str x hx => exact ⟨.inr ⟨x.toArray⟩, rfl, rfl, hx⟩
  | _ => simp at f
theorem keyD_eqv {k1 k2 : Key} {d1 d2 : D} (h1 : keyD k1 d1) (h2 : keyD k2 d2) : d1.eqv d2 = decide (k1 = k2) := by
  cases k1 with
  | inl i =>
    cases d1 with
    | int i' =>
      obtain rfl : i = i' := h1
      cases k2 with
      | inl j =>
        cases d2 with
        | int j' =>
          obtain rfl : j = j' := h2
          simp only [D.eqv]
          exact (key_ll i j).symm
        | _ => exact h2.elim
      | inr y =>
        cases d2 with
        | str y' => rw [key_lr]; rfl
        | _ => exact h2.elim
    | _ => exact h1.elim
  | inr x =>
    cases d1 with
    | str x' =>
      obtain ⟨rfl, _⟩ := h1
      cases k2 with
      | inl j =>
        cases d2 with
        | int j' => rw [key_rl]; rfl
        | _ => exact h2.elim
      | inr y =>
        cases d2 with
        | str y' =>
          obtain ⟨rfl, _⟩ := h2
          rw [key_rr]
          simp only [D.eqv]
          exact (SX.S_beq x' y').symm.trans (by by_cases e : SX.S x' = SX.S y' <;> simp [e])
        | _ => exact h2.elim
    | _ => exact h1.elim
theorem look_v {kk : Key} {kd : D} (hk : keyD kk kd) : ∀ {vs : List (Key × V)} {ds : List (D × D)}, DenK g Z S vs ds → match lookK kd ds with
    | none => valV vs kk = none
    | some d => ∃ v, valV vs kk = some v ∧ Den g Z S v d
  | _, _, .nil => rfl
  | _, _, .cons (k := k0) (kd := kd0) (v := v) (d := d) (vs := vs) (ds := ds) h hv r => by
    have ih := look_v hk r
    have e := keyD_eqv h hk
    simp only [lookK]
    by_cases c : k0 = kk
    · rw [e, decide_eq_true c]
      simp only [if_true]
      exact ⟨v, by simp [valV, List.find?_cons, c], hv⟩
    · rw [e, decide_eq_false c]
      have : valV ((k0, v) :: vs) kk = valV vs kk := by simp [valV, List.find?_cons, c]
      simp only [this]
      exact ih
theorem memKey_look {kd : D} : ∀ ds : List (D × D), memKey kd ds = (lookK kd ds).isSome
  | [] => rfl
  | (k, v) :: r => by
    simp only [memKey, lookK]
    cases k.eqv kd <;> simp [memKey_look r]
/-- in, not in: a list or tuple of flat items, one sign in a text, a key in a dict -/
def rInU (K : PySem.W.Frag) (w : World) (neg : Bool) : R2 := fun x y H Q =>
  rIn K neg x y H Q ∨ (∃ i j, x = .str i ∧ y = .str j ∧ Q (.bl (neg != !(Builtin.Str.occurrences j i 0 j.length 1).isEmpty)) H) ∨
    (∃ a o, y = .ref a ∧ DGet H a x o ∧ Q (.bl (neg != o.isSome)) H) ∨
    ∃ d es n z r, y = .ref d ∧ KDict K w d es n ∧ x = .str z ∧ PySem.W.nsIn K d z = some r ∧ Q (.bl (neg != r.isSome)) H
theorem op_inU (hu : X.A.units + 64 < cLine) : OpR X (compareOp .In) (rInU X.K X.w false) := by
  intro pins s σ H x y v u Q I rx ry h
  rcases h with h | ⟨i, j, rfl, rfl, h⟩ | ⟨a, o, rfl, hg, h⟩ | ⟨d, es, n, z, r, rfl, D, rfl, hn, h⟩
  · exact op_in_seq pins s σ H x y v u Q I rx ry h
  · exact op_in_str pins s σ H _ _ v u Q I rx ry ⟨i, j, rfl, rfl, by simpa using h⟩
  · obtain rfl : u = Value.ref a := ry
    exact d_in (by omega) I hg rx fun s3 I3 => ⟨.bl o.isSome, H, I3, rfl, by simpa using h⟩
  · exact op_in_kd D pins s σ H _ _ v u Q I rx ry ⟨z, r, rfl, rfl, hn, by simpa using h⟩
theorem op_ninU (hu : X.A.units + 64 < cLine) : OpR X (compareOp .NotIn) (rInU X.K X.w true) := by
  intro pins s σ H x y v u Q I rx ry h
  rcases h with h | ⟨i, j, rfl, rfl, h⟩ | ⟨a, o, rfl, hg, h⟩ | ⟨d, es, n, z, r, rfl, D, rfl, hn, h⟩
  · exact op_notIn_seq pins s σ H x y v u Q I rx ry h
  · exact op_notIn_str pins s σ H _ _ v u Q I rx ry ⟨i, j, rfl, rfl, by simpa using h⟩
  · obtain rfl : u = Value.ref a := ry
    exact d_notIn (by omega) I hg rx fun s3 I3 => ⟨.bl (!o.isSome), H, I3, rfl, by simpa using h⟩
  · exact op_notIn_kd D pins s σ H _ _ v u Q I rx ry ⟨z, r, rfl, rfl, hn, by simpa using h⟩
theorem der_flat {d : D} (f : (der s d).flat = true) : der s d = d := by
  cases d with
  | obj i =>
    exfalso
    unfold der at f
    dsimp only at f
    cases c : s.list i with
    | none => rw [c] at f; simp [D.flat] at f
    | some l => rw [c] at f; simp [D.flat] at f
  | _ => rfl
theorem is_in (G : GoodX g k N sc W X) (q : StoR g Z S H s) {x y : V} {a b : D} {r neg : Bool} {Q : VK} (hx : Den g Z S x a) (hy : Den g Z S y b) (hf : isIn (der s a) (der s b) = some r) (hk : Q (.bl (neg != r)) H) : rInU X.K X.w neg x y H Q := by
  have hneg : (if neg then !r else r) = (neg != r) := by cases neg <;> cases r <;> rfl
  have seq : ∀ (a0 : Addr) (vs : List V) (l : List D), y = .ref a0 → (SqL X.K H a0 vs ∨ SqT X.K H a0 vs) → DenL g Z S vs l → (match (der s a).flat with | true => memD (der s a) l | false => none) = some r → rInU X.K X.w neg x y H Q := by
    intro a0 vs l hy0 hs rl hm
    cases f : (der s a).flat with
    | false => rw [f] at hm; cases hm
    | true =>
      rw [f] at hm
      have e := der_flat f
      rw [e] at f hm
      obtain ⟨h1, h2⟩ := mem_v hx f rl hm
      refine .inl ⟨a0, vs, hy0, hs, flat_v hx f, h1, ?_⟩
      rw [h2, hneg]; exact hk
  cases e : der s b with
  | lst l =>
    rw [e] at hf
    obtain ⟨a0, vs, rfl, hH, rl⟩ := lst_of q hy e
    exact seq a0 vs l rfl (.inl (SqL.of hH)) rl hf
  | tup l =>
    rw [e] at hf
    obtain ⟨a0, vs, rfl, hH, rl⟩ := tup_der hy e
    exact seq a0 vs l rfl (.inr (SqT.up hH G q)) rl hf
  | str t =>
    rw [e] at hf
    have eb := der_obj e (fun _ q => nomatch q) (fun _ q => nomatch q)
    subst eb
    unfold isIn at hf
    dsimp only at hf
    split at hf
    · rename_i c ea
      have ea' := der_obj ea (fun _ q => nomatch q) (fun _ q => nomatch q)
      subst ea'
      simp only [Option.some.injEq] at hf
      cases hx with
      | str _ h1 =>
        cases hy with
        | str _ h2 =>
          refine .inr (.inl ⟨_, _, rfl, rfl, ?_⟩)
          have e2 := SX.in_one t c
          have e3 : decide (c ∈ t) = r := by rw [← hf]; simp
          rw [e2, e3]; exact hk
    · cases hf
  | dct l =>
    rw [e] at hf
    have eb := der_obj e (fun _ q => nomatch q) (fun _ q => nomatch q)
    subst eb
    have hkey : ∃ t, a = .str t ∧ memKey a l = r := by
      unfold isIn at hf
      dsimp only at hf
      split at hf
      · rename_i t ea
        have ea' := der_obj ea (fun _ q => nomatch q) (fun _ q => nomatch q)
        subst ea'
        exact ⟨t, rfl, by simpa [der] using hf⟩
      · cases hf
    obtain ⟨t, rfl, hkey⟩ := hkey
    obtain ⟨kk, rfl, kd⟩ := key_v hx rfl
    have hr : (lookK (.str t) l).isSome = r := by rw [← memKey_look]; exact hkey
    cases hy with
    | @dct a0 kvs _ h1 rl =>
      have := look_v kd rl
      refine .inr (.inr (.inl ⟨a0, valV kvs kk, rfl, DGet.k (q.z _ _ h1), ?_⟩))
      have e3 : (valV kvs kk).isSome = r := by
        rw [← hr]
        cases c : lookK (.str t) l with
        | none => rw [c] at this; rw [this]; rfl
        | some d => rw [c] at this; obtain ⟨v, e, _⟩ := this; rw [e]; rfl
      rw [e3]; exact hk
    | @kdct a0 kvs _ h1 rl =>
      obtain ⟨es, n, D1, hz⟩ := h1
      have := look_v kd rl
      cases kk with
      | inl _ => exact kd.elim
      | inr z =>
        obtain ⟨rfl, _⟩ := kd
        have h2 := hz ⟨t.toArray⟩
        rw [← G.hK, ← G.hw] at D1
        cases c : lookK (.str t) l with
        | none =>
          rw [c] at this hr
          simp only at this
          rw [this] at h2
          rw [← G.hK] at h2
          subst hr
          exact .inr (.inr (.inr ⟨a0, es, n, _, none, rfl, D1, rfl, h2, hk⟩))
        | some d =>
          rw [c] at this hr
          obtain ⟨v, e1, _⟩ := this
          rw [e1] at h2
          obtain ⟨u, h3, _⟩ := h2
          rw [← G.hK] at h3
          subst hr
          exact .inr (.inr (.inr ⟨a0, es, n, _, some u, rfl, D1, rfl, h3, hk⟩))
  | _ => rw [e] at hf; simp [isIn] at hf
end
end Ms

set_option Elab.async false
set_option linter.all false
set_option autoImplicit false
set_option maxRecDepth 100000
set_option maxHeartbeats 1000000
namespace Ms
open PySem PySem.Spec L2 SX
open PyProof.Rows hiding St
section
variable {g : Glob} {k : Nat} {N : List Str} {sc : Scope} {W : WX} {X : Cx} {Z Z' : Hp} {S S' : List Addr} {σ : St} {H H' : Hp} {s s' : Sto} {e : Env} {b : Bs}
/-! ### subscripts -/
def rIxU (K : PySem.W.Frag) (w : World) : R2 := fun x y H Q => rIx K x y H Q ∨ (∃ a v, x = .ref a ∧ DGet H a y (some v) ∧ Q v H) ∨ rIxD K w x y H Q
theorem ix_dget (hu : X.A.units + 64 < cLine) : IxR X (fun x y H Q => ∃ a v, x = .ref a ∧ DGet H a y (some v) ∧ Q v H) := by
  intro value slice pins s σ H x y v u Q I rx ry h hs
  obtain ⟨a, z, rfl, hg, q⟩ := h
  obtain rfl : v = Value.ref a := rx
  exact tail_any (dict_typeIs I hg) PySem.F.slot_dict_getitem.lookup (d_getItem (by omega) I hg ry fun w' s3 I3 rw' => ⟨z, H, I3, rw', q⟩) hs
theorem ix_U (hu : X.A.units + 64 < cLine) : IxR X (rIxU X.K X.w) := ix_seq.or ((ix_dget hu).or ix_kdict)
theorem ixPos_eq (n : Nat) (i : Int) : ixPos n i = ixN n i := rfl
theorem atIx_get {α : Type} {l : List α} {i : Int} {x : α} (h : atIx l i = some x) : ∃ j, ixN l.length i = some j ∧ l[j]? = some x := by
  unfold atIx at h
  cases c : ixPos l.length i with
  | none => rw [c] at h; cases h
  | some j => rw [c] at h; exact ⟨j, c, h⟩
theorem atI_of {vs : List V} {ds : List D} (r : DenL g Z S vs ds) {i : Int} {d : D} (h : atIx ds i = some d) : ∃ v, atI vs i = some v ∧ Den g Z S v d := by
  obtain ⟨j, h1, h2⟩ := atIx_get h
  obtain ⟨v, h3, h4⟩ := r.get h2
  exact ⟨v, by unfold atI; rw [r.length, h1]; exact h3, h4⟩
theorem okS_mem {a : List Nat} (h : okS a) {c : Nat} (m : c ∈ a) : okS [c] := fun x hx => by
  rw [List.mem_singleton] at hx; subst hx; exact h _ m
theorem does_ix (G : GoodX g k N sc W X) : Does2 g (fun a b s => index (der s a) b) (rIxU X.K X.w) := by
  intro Z S H s x y a b d Q q hx hy hf hk
  try dsimp only at hf
  cases e : der s a with
  | lst l =>
    rw [e] at hf
    obtain ⟨a0, vs, rfl, hH, rl⟩ := lst_of q hx e
    cases hy with
    | int i =>
      obtain ⟨v, h1, h2⟩ := atI_of rl (show atIx l i = some d from hf)
      exact .inl (.inl ⟨a0, vs, i, v, rfl, rfl, SqL.of hH, h1, hk _ Z S H q .refl h2⟩)
    | _ => simp [index] at hf
  | tup l =>
    rw [e] at hf
    obtain ⟨a0, vs, rfl, hH, rl⟩ := tup_der hx e
    cases hy with
    | int i =>
      obtain ⟨v, h1, h2⟩ := atI_of rl (show atIx l i = some d from hf)
      exact .inl (.inr (.inl ⟨a0, vs, i, v, rfl, rfl, SqT.up hH G q, h1, hk _ Z S H q .refl h2⟩))
    | _ => simp [index] at hf
  | str t =>
    rw [e] at hf
    have ea := der_obj e (fun _ q => nomatch q) (fun _ q => nomatch q)
    subst ea
    cases hx with
    | str _ h1 =>
      cases hy with
      | int i =>
        simp only [index] at hf
        split at hf
        · rename_i hl
          cases c : atIx t i with
          | none => rw [c] at hf; cases hf
          | some cc =>
            rw [c] at hf
            simp only [Option.map_some, Option.some.injEq] at hf
            subst hf
            obtain ⟨j, h3, h4⟩ := atIx_get c
            refine .inl (.inr (.inr ⟨_, i, cc, rfl, rfl, ?_, ?_, ?_⟩))
            · rw [SX.S_len]; exact of_decide_eq_true hl
            · unfold atI; rw [h3]; exact h4
            · exact hk _ Z S H q .refl (.str [cc] (okS_mem h1 (List.mem_of_getElem? h4)))
        · cases hf
      | _ => simp [index] at hf
  | dct l =>
    rw [e] at hf
    have ea := der_obj e (fun _ q => nomatch q) (fun _ q => nomatch q)
    subst ea
    cases b with
    | str t =>
      simp only [index] at hf
      obtain ⟨kk, rfl, kd⟩ := key_v hy rfl
      cases hx with
      | @dct a0 kvs _ h1 rl =>
        have := look_v kd rl
        rw [hf] at this
        obtain ⟨v, h2, h3⟩ := this
        exact .inr (.inl ⟨a0, v, rfl, by rw [← h2]; exact DGet.k (q.z _ _ h1), hk _ Z S H q .refl h3⟩)
      | @kdct a0 kvs _ h1 rl =>
        obtain ⟨es, n, D1, hz⟩ := h1
        have := look_v kd rl
        rw [hf] at this
        obtain ⟨v, h2, h3⟩ := this
        cases kk with
        | inl _ => exact kd.elim
        | inr z =>
          obtain ⟨rfl, _⟩ := kd
          have h4 := hz ⟨t.toArray⟩
          rw [h2] at h4
          obtain ⟨u, h5, h6⟩ := h4
          rw [← G.hK, ← G.hw] at D1
          rw [← G.hK] at h5
          exact .inr (.inr ⟨a0, _, v, rfl, rfl, ⟨es, n, u, D1.at_, D1.lit, h5, h6⟩, hk _ Z S H q .refl h3⟩)
    | _ => simp [index] at hf
  | _ => rw [e] at hf; simp [index] at hf

/-! ### one-place built-ins -/
def DoesC (g : Glob) (f : D → Sto → Option D) (r : List V → Hp → VK → Prop) : Prop := Does1 g f fun x H Q => r [x] H Q
def rLenU (K : PySem.W.Frag) : List V → Hp → VK → Prop := fun xs H Q =>
  (∃ p ys, xs = [.ref p] ∧ (SqL K H p ys ∨ SqT K H p ys) ∧ Q (.int ys.length) H) ∨ (∃ z, xs = [.str z] ∧ z.length ≤ sizeLine ∧ Q (.int z.length) H)
theorem call_lenU : CallR X (.builtin "len") (rLenU X.K) := CallR.or call_len_seq call_len_str
theorem does_len (G : GoodX g k N sc W X) : DoesC g (fun a s => b1 .len (der s a)) (rLenU X.K) := by
  intro Z S H s x a d Q q hx hf hk
  try dsimp only at hf
  cases e : der s a with
  | lst l =>
    rw [e] at hf
    obtain ⟨a0, vs, rfl, hH, rl⟩ := lst_of q hx e
    simp only [b1, Option.some.injEq] at hf
    subst hf
    refine .inl ⟨a0, vs, rfl, .inl (SqL.of hH), ?_⟩
    rw [rl.length]; exact hk _ Z S H q .refl (.int _)
  | tup l =>
    rw [e] at hf
    obtain ⟨a0, vs, rfl, hH, rl⟩ := tup_der hx e
    simp only [b1, Option.some.injEq] at hf
    subst hf
    refine .inl ⟨a0, vs, rfl, .inr (SqT.up hH G q), ?_⟩
    rw [rl.length]; exact hk _ Z S H q .refl (.int _)
  | str t =>
    rw [e] at hf
    have ea := der_obj e (fun _ q => nomatch q) (fun _ q => nomatch q)
    subst ea
    simp only [b1] at hf
    split at hf
    · rename_i hl
      simp only [Option.some.injEq] at hf
      subst hf
      cases hx
      refine .inr ⟨_, rfl, by rw [SX.S_len]; exact of_decide_eq_true hl, ?_⟩
      rw [SX.S_len]; exact hk _ Z S H q .refl (.int _)
    · cases hf
  | _ => rw [e] at hf; simp [b1] at hf
theorem bools_v : ∀ {vs : List V} {ds : List D} {bs : List Bool}, DenL g Z S vs ds → boolsOf ds = some bs → vs = bs.map V.bl
  | _, _, bs, .nil, h => by simp only [boolsOf, Option.some.injEq] at h; subst h; rfl
  | _, _, bs, .cons (ds := ds) h r, e => by
    cases h with
    | bl b =>
      simp only [boolsOf] at e
      cases c : boolsOf ds with
      | none => rw [c] at e; cases e
      | some bs' =>
        rw [c] at e
        simp only [Option.map_some, Option.some.injEq] at e
        subst e
        rw [bools_v r c]; rfl
    | _ => simp [boolsOf] at e
theorem does_all (G : GoodX g k N sc W X) : DoesC g (fun a s => b1 .all (der s a)) (rAll X.K) := by
  intro Z S H s x a d Q q hx hf hk
  try dsimp only at hf
  cases e : der s a with
  | lst l =>
    rw [e] at hf
    obtain ⟨a0, vs, rfl, hH, rl⟩ := lst_of q hx e
    simp only [b1] at hf
    cases c : boolsOf l with
    | none => rw [c] at hf; cases hf
    | some bs =>
      rw [c] at hf
      simp only [Option.map_some, Option.some.injEq] at hf
      subst hf
      have := bools_v rl c
      subst this
      exact ⟨a0, bs, rfl, SqL.of hH, hk _ Z S H q .refl (.bl _)⟩
  | _ => rw [e] at hf; simp [b1] at hf
theorem does_any (G : GoodX g k N sc W X) : DoesC g (fun a s => b1 .any (der s a)) (rAny X.K) := by
  intro Z S H s x a d Q q hx hf hk
  try dsimp only at hf
  cases e : der s a with
  | lst l =>
    rw [e] at hf
    obtain ⟨a0, vs, rfl, hH, rl⟩ := lst_of q hx e
    simp only [b1] at hf
    cases c : boolsOf l with
    | none => rw [c] at hf; cases hf
    | some bs =>
      rw [c] at hf
      simp only [Option.map_some, Option.some.injEq] at hf
      subst hf
      have := bools_v rl c
      subst this
      exact ⟨a0, bs, rfl, SqL.of hH, hk _ Z S H q .refl (.bl _)⟩
  | _ => rw [e] at hf; simp [b1] at hf
def rTupU (K : PySem.W.Frag) : List V → Hp → VK → Prop := fun xs H Q => ∃ p ys, xs = [.ref p] ∧ ((SqL K H p ys ∧ ∀ l, H l = none → Q (.ref l) (upd H l (.tup ys))) ∨ (SqT K H p ys ∧ Q (.ref p) H))
theorem does_tuple (G : GoodX g k N sc W X) : DoesC g (fun a s => b1 .tuple (der s a)) (rTupU X.K) := by
  intro Z S H s x a d Q q hx hf hk
  try dsimp only at hf
  cases e : der s a with
  | lst l =>
    rw [e] at hf
    obtain ⟨a0, vs, rfl, hH, rl⟩ := lst_of q hx e
    simp only [b1, Option.some.injEq] at hf
    subst hf
    refine ⟨a0, vs, rfl, .inl ⟨SqL.of hH, fun p n => ?_⟩⟩
    obtain ⟨q1, x1⟩ := lay q n (notTbl_tup vs)
    exact hk _ _ _ _ q1 x1 (.tup (.inl (Rd.of upd_same)) (x1.denL rl))
  | tup l =>
    rw [e] at hf
    obtain ⟨a0, vs, rfl, hH, rl⟩ := tup_der hx e
    simp only [b1, Option.some.injEq] at hf
    subst hf
    exact ⟨a0, vs, rfl, .inr ⟨SqT.up hH G q, hk _ Z S H q .refl (.tup hH rl)⟩⟩
  | _ => rw [e] at hf; simp [b1] at hf
theorem ofString_eq (x : String) : Str.ofString x = ⟨(x.toList.map (fun c => c.toNat)).toArray⟩ := by
  unfold Str.ofString
  rw [cpsOfBytes_string]
theorem okS_string (x : String) : okS (x.toList.map (fun c => c.toNat)) := fun c hc => by
  obtain ⟨d, _, rfl⟩ := List.mem_map.mp hc
  have h := d.valid
  have e : d.toNat = d.val.toNat := rfl
  simp only [UInt32.isValidChar, Nat.isValidChar] at h
  omega
theorem log_of {n : Nat} (h : n < 1000000000000000000000000000000) : n.log2 < 1920 := by
  by_cases c : n = 0
  · subst c; decide
  · rw [Nat.log2_lt c]
    exact Nat.lt_of_lt_of_le h (by decide +kernel)
def rStrU : List V → Hp → VK → Prop := fun xs H Q => (∃ i, xs = [.int i] ∧ i.natAbs.log2 < 1920 ∧ Q (.str (toString i)) H) ∨ ∃ a, xs = [.str a] ∧ Q (.str a) H
theorem does_str (G : GoodX g k N sc W X) : DoesC g (fun a s => b1 .str (der s a)) rStrU := by
  intro Z S H s x a d Q q hx hf hk
  try dsimp only at hf
  cases hx with
  | int i =>
    simp only [der, b1] at hf
    split at hf
    · rename_i hl
      simp only [Option.some.injEq] at hf
      subst hf
      refine .inl ⟨i, rfl, log_of (of_decide_eq_true hl), ?_⟩
      have := hk _ Z S H q .refl (.str (showInt i) (okS_string _))
      have e : (toString i : Str) = ⟨(showInt i).toArray⟩ := ofString_eq _
      rw [e]; exact this
    · cases hf
  | str t h =>
    simp only [der, b1, Option.some.injEq] at hf
    subst hf
    exact .inr ⟨_, rfl, hk _ Z S H q .refl (.str t h)⟩
  | @obj n a0 h1 =>
    exfalso
    unfold der at hf
    dsimp only at hf
    cases c : s.list n with
    | none => rw [c] at hf; simp [b1] at hf
    | some l => rw [c] at hf; simp [b1] at hf
  | _ => simp [der, b1] at hf
theorem does_int (G : GoodX g k N sc W X) : DoesC g (fun a s => b1 .int (der s a)) (fun xs H Q => (∃ i, xs = [.int i] ∧ Q (.int i) H) ∨ ∃ k, xs = [.bl k] ∧ Q (.int (if k then 1 else 0)) H) := by
  intro Z S H s x a d Q q hx hf hk
  try dsimp only at hf
  cases hx with
  | int i =>
    simp only [der, b1, Option.some.injEq] at hf
    subst hf
    exact .inl ⟨i, rfl, hk _ Z S H q .refl (.int _)⟩
  | bl c =>
    simp only [der, b1, Option.some.injEq] at hf
    subst hf
    refine .inr ⟨c, rfl, ?_⟩
    have : (if c = true then (1 : Int) else 0) = cond c 1 0 := by cases c <;> rfl
    rw [this]
    exact hk _ Z S H q .refl (.int _)
  | @obj n a0 h1 =>
    exfalso
    unfold der at hf
    dsimp only at hf
    cases c : s.list n with
    | none => rw [c] at hf; simp [b1] at hf
    | some l => rw [c] at hf; simp [b1] at hf
  | _ => simp [der, b1] at hf
/-! ### isinstance -/
def Ty.name : Ty → String
  | .int => "int"
  | .bool => "bool"
  | .str => "str"
  | .tup => "tuple"
  | _ => "list"
def isTy1 (s : Sto) (d : D) (t : Ty) : Option D := match t with
  | .tupLst => none
  | t => (isTy s d t).map D.bl
end
end Ms

set_option Elab.async false
set_option linter.all false
set_option autoImplicit false
set_option maxRecDepth 100000
set_option maxHeartbeats 1000000
namespace Ms
open PySem PySem.Spec L2 SX
open PyProof.Rows hiding St
section
variable {g : Glob} {k : Nat} {N : List Str} {sc : Scope} {W : WX} {X : Cx} {Z Z' : Hp} {S S' : List Addr} {σ : St} {H H' : Hp} {s s' : Sto} {e : Env} {b : Bs}
/-! ### isinstance -/
def isTyN (d : D) : Option String := match d with
  | .non => some "NoneType"
  | .bl _ => some "bool"
  | .int _ => some "int"
  | .str _ => some "str"
  | .tup _ => some "tuple"
  | .lst _ => some "list"
  | .dct _ => some "dict"
  | _ => none
theorem frz_rd {K : PySem.W.Frag} {a : Addr} {xs : List V} (h : SqT K H a xs) : TyX K H (.ref a) (.type "tuple") := by
  rcases h with (h | ⟨o, h⟩) | ⟨o, its, n, h, hc, _⟩
  · exact .base (.tup h)
  · exact .fTuple h
  · exact .kTuple h hc
theorem tyX_of (G : GoodX g k N sc W X) (q : StoR g Z S H s) {v : V} {d : D} (hx : Den g Z S v d) {t : String} (h : isTyN (der s d) = some t) : TyX X.K H v (.type t) := by
  have n : ∀ i, der s d ≠ .obj i := fun i e => by rw [e] at h; cases h
  rcases der_den q hx n with h1 | ⟨a, vs, l, rfl, e, ha, r⟩
  · clear n
    revert h1 h
    generalize der s d = dd
    intro h h1
    revert h
    cases h1 with
    | non => intro h; injection h with h; subst h; exact .base .non
    | bl b => intro h; injection h with h; subst h; exact .base (.bl b)
    | int i => intro h; injection h with h; subst h; exact .base (.int i)
    | str x _ => intro h; injection h with h; subst h; exact .base (.str _)
    | tup h2 _ => intro h; injection h with h; subst h; exact frz_rd (SqT.up h2 G q)
    | lst h2 _ => intro h; injection h with h; subst h; exact .base (.lst (q.z _ _ h2))
    | dct h2 _ => intro h; injection h with h; subst h; exact .base (.dK (q.z _ _ h2))
    | kdct h2 _ =>
      intro h; injection h with h; subst h
      obtain ⟨es, m, D1, _⟩ := h2
      rw [← G.hK] at D1
      exact .kDict D1.at_ rfl
    | obj _ => intro h; cases h
    | fn _ _ => intro h; cases h
    | frz _ => intro h; cases h
  · rw [e] at h
    injection h with h
    subst h
    exact .base (.lst ha)
theorem kit_all : ∀ t ∈ ["NoneType", "bool", "int", "str", "tuple", "list", "dict"], ∀ c ∈ ["bool", "int", "str", "tuple", "list"], kitB t c = some (t == c || (t == "bool" && c == "int")) := by decide +kernel
theorem kit_ok {K : PySem.W.Frag} {t c : String} (h1 : t ∈ ["NoneType", "bool", "int", "str", "tuple", "list", "dict"]) (h2 : c ∈ ["bool", "int", "str", "tuple", "list"]) :
    PySem.W.kitOne K (.type t) (.type c) = some (t == c || (t == "bool" && c == "int")) := kit_ty (kit_all t h1 c h2)
def Ty.nm : Ty → String
  | .int => "int"
  | .bool => "bool"
  | .str => "str"
  | .tup => "tuple"
  | .lst => "list"
  | .tupLst => "list"
theorem isTy_der (s : Sto) (d : D) (t : Ty) {r : Bool} (h : isTy s d t = some r) : isTy s (der s d) t = some r := by
  cases d with
  | obj n =>
    simp only [isTy] at h
    simp only [der]
    cases c : s.list n with
    | none => rw [c] at h; cases h
    | some l =>
      rw [c] at h
      simp only [Option.some.injEq] at h
      subst h
      cases t <;> rfl
  | _ => exact h
theorem isTy_noobj {s : Sto} {d : D} {t : Ty} {r : Bool} (h : isTy s d t = some r) : ∀ i, der s d ≠ .obj i := by
  cases d with
  | obj n =>
    simp only [isTy] at h
    cases c : s.list n with
    | none => rw [c] at h; cases h
    | some l => simp only [der, c]; intro i q; cases q
  | _ => intro i q; cases q
theorem isTy_n {s : Sto} {d : D} {t : Ty} {r : Bool} (ht : t ≠ .tupLst) (h : isTy s d t = some r) (n : ∀ i, d ≠ .obj i) : ∃ nm, isTyN d = some nm ∧ nm ∈ ["NoneType", "bool", "int", "str", "tuple", "list", "dict"] ∧ r = (nm == t.nm || (nm == "bool" && t.nm == "int")) := by
  cases d with
  | obj i => exact absurd rfl (n i)
  | fn _ => cases t <;> cases h
  | frz _ => cases t <;> cases h
  | non => refine ⟨_, rfl, by decide, ?_⟩; cases t <;> first | exact absurd rfl ht | (injection h with h; subst h; decide)
  | bl _ => refine ⟨_, rfl, by decide, ?_⟩; cases t <;> first | exact absurd rfl ht | (injection h with h; subst h; decide)
  | int _ => refine ⟨_, rfl, by decide, ?_⟩; cases t <;> first | exact absurd rfl ht | (injection h with h; subst h; decide)
  | str _ => refine ⟨_, rfl, by decide, ?_⟩; cases t <;> first | exact absurd rfl ht | (injection h with h; subst h; decide)
  | tup _ => refine ⟨_, rfl, by decide, ?_⟩; cases t <;> first | exact absurd rfl ht | (injection h with h; subst h; decide)
  | lst _ => refine ⟨_, rfl, by decide, ?_⟩; cases t <;> first | exact absurd rfl ht | (injection h with h; subst h; decide)
  | dct _ => refine ⟨_, rfl, by decide, ?_⟩; cases t <;> first | exact absurd rfl ht | (injection h with h; subst h; decide)
/-- isinstance(x, one built-in type) -/
theorem does_isin (G : GoodX g k N sc W X) {t : Ty} (ht : t ≠ .tupLst) : Does1 g (fun a s => (isTy s a t).map D.bl) (fun x H Q => rIsi X.K [x, .ty t.nm] H Q) := by
  intro Z S H s x a d Q q hx hf hk
  try dsimp only at hf
  cases c : isTy s a t with
  | none => rw [c] at hf; cases hf
  | some r =>
    rw [c] at hf
    simp only [Option.map_some, Option.some.injEq] at hf
    subst hf
    have n := isTy_noobj c
    obtain ⟨nm, h1, h2, h3⟩ := isTy_n ht (isTy_der s a t c) n
    refine ⟨x, .ty t.nm, .type nm, .type t.nm, r, rfl, .ty _, tyX_of G q hx h1, ?_, hk _ Z S H q .refl (.bl _)⟩
    rw [h3]
    exact kit_ok h2 (by cases t <;> first | exact absurd rfl ht | decide)
/-- isinstance(x, (tuple, list)) -/
theorem does_isinTL (G : GoodX g k N sc W X) {p : Addr} : Does1 g (fun a s => (isTy s a .tupLst).map D.bl) (fun x H Q => H p = some (.tup [.ty "tuple", .ty "list"]) → rIsiT X.K [x, .ref p] H Q) := by
  intro Z S H s x a d Q q hx hf hk hp
  try dsimp only at hf
  cases c : isTy s a .tupLst with
  | none => rw [c] at hf; cases hf
  | some r =>
    rw [c] at hf
    simp only [Option.map_some, Option.some.injEq] at hf
    subst hf
    have c' := isTy_der s a .tupLst c
    have fin : ∀ nm, isTyN (der s a) = some nm → nm ∈ ["NoneType", "bool", "int", "str", "tuple", "list", "dict"] → r = (nm == "tuple" || nm == "list") → rIsiT X.K [x, .ref p] H Q := by
      intro nm h1 h2 h3
      refine ⟨x, p, [.ty "tuple", .ty "list"], .type nm, [.type "tuple", .type "list"], r, rfl, hp, .cons (.ty _) (.cons (.ty _) .nil), tyX_of G q hx h1, ?_, hk _ Z S H q .refl (.bl _)⟩
      have k1 := kit_ok (K := X.K) h2 (show "tuple" ∈ ["bool", "int", "str", "tuple", "list"] by decide)
      have k2 := kit_ok (K := X.K) h2 (show "list" ∈ ["bool", "int", "str", "tuple", "list"] by decide)
      have e1 : ("tuple" == "int") = false := by decide
      have e2 : ("list" == "int") = false := by decide
      rw [e1, Bool.and_false, Bool.or_false] at k1
      rw [e2, Bool.and_false, Bool.or_false] at k2
      refine kitAny_cons k1 (fun hb => ?_) (fun hb => by rw [h3, hb]; rfl)
      refine kitAny_cons k2 (fun hb2 => ?_) (fun hb2 => by rw [h3, hb2]; simp)
      rw [h3, hb, hb2]; exact kitAny_nil
    have n := isTy_noobj c
    revert c' fin n
    cases der s a with
    | obj i => intro _ _ n; exact absurd rfl (n i)
    | fn _ => intro c' _ _; cases c'
    | frz _ => intro c' _ _; cases c'
    | non => intro c' fin _; injection c' with c'; subst c'; exact fin _ rfl (by decide) (by decide)
    | bl _ => intro c' fin _; injection c' with c'; subst c'; exact fin _ rfl (by decide) (by decide)
    | int _ => intro c' fin _; injection c' with c'; subst c'; exact fin _ rfl (by decide) (by decide)
    | str _ => intro c' fin _; injection c' with c'; subst c'; exact fin _ rfl (by decide) (by decide)
    | tup _ => intro c' fin _; injection c' with c'; subst c'; exact fin _ rfl (by decide) (by decide)
    | lst _ => intro c' fin _; injection c' with c'; subst c'; exact fin _ rfl (by decide) (by decide)
    | dct _ => intro c' fin _; injection c' with c'; subst c'; exact fin _ rfl (by decide) (by decide)
end
end Ms

set_option Elab.async false
set_option linter.all false
set_option autoImplicit false
set_option maxRecDepth 100000
set_option maxHeartbeats 2000000
namespace Ms
open PySem PySem.Spec L2 SX
open PyProof.Rows hiding St
/-! ## text * int, tuple * int -/
section
variable {g : Glob} {k : Nat} {N : List Str} {sc : Scope} {W : WX} {X : Cx} {Z Z' : Hp} {S S' : List Addr} {σ : L2.St} {H H' : Hp} {s s' : Sto} {e : Env} {b : Bs}
def rMulS : R2 := fun x y H Q => ∃ a k, x = .str a ∧ y = .int k ∧ 0 ≤ k ∧ k ≤ 1000 ∧ a.length ≤ 1000 ∧ Q (.str ⟨(List.replicate k.toNat a.cps.toList).flatten.toArray⟩) H
theorem foldl_arr : ∀ (n : Nat) (a acc : Array Nat), (List.replicate n a).foldl (· ++ ·) acc = acc ++ (List.replicate n a.toList).flatten.toArray
  | 0, a, acc => by simp
  | n + 1, a, acc => by
    rw [List.replicate_succ, List.foldl_cons, foldl_arr n a, List.replicate_succ, List.flatten_cons]
    apply Array.ext'
    simp
theorem op_mulS : OpR X (binaryOp .Mult) rMulS := by
  intro pins s σ H x y v u Q I rx ry h
  obtain ⟨a, k, rfl, rfl, h0, h1, hl, q⟩ := h
  obtain ⟨t, rfl⟩ := rx
  obtain ⟨t', rfl⟩ := ry
  have hsz : a.length * k.toNat ≤ 1000000 := by
    have : a.length * k.toNat ≤ 1000 * 1000 := Nat.mul_le_mul hl (by omega)
    omega
  refine PySem.P.mul_str (by rw [decide_eq_false (by omega), decide_eq_false (by omega)]; rfl) (fun h2 h3 => ?_) (fun h2 h3 => ?_) ?_
  · have : (1000 : Int) ≤ (2 ^ 63 - 1) / k := by
      have hk : 0 < k := by omega
      rw [Int.le_ediv_iff_mul_le hk]
      omega
    omega
  · unfold Builtin.Str.tooLong
    simp only [decide_eq_false_iff_not]
    have := sizeLine_eq
    omega
  · by_cases c1 : k < 1
    · rw [if_pos c1]
      have : k = 0 := by omega
      subst this
      exact ⟨by decide, .str ⟨#[]⟩, H, I.tok _, ⟨_, rfl⟩, by simpa using q⟩
    · rw [if_neg c1]
      by_cases c2 : (k == 1 || a.length == 0) = true
      · rw [if_pos c2]
        refine ⟨.str a, H, I, ⟨_, rfl⟩, ?_⟩
        have e : (⟨(List.replicate k.toNat a.cps.toList).flatten.toArray⟩ : Str) = a := by
          rw [Bool.or_eq_true] at c2
          rcases c2 with c2 | c2
          · have : k = 1 := by simpa using c2
            subst this
            simp
          · have h0 : a.cps = #[] := by
              have : a.length = 0 := by simpa using c2
              exact Array.eq_empty_of_size_eq_zero this
            obtain ⟨c⟩ := a
            simp only at h0
            subst h0
            simp
        rw [← e]; exact q
      · rw [if_neg c2]
        have e : (List.replicate k.toNat a.cps).foldl (· ++ ·) #[] = (List.replicate k.toNat a.cps.toList).flatten.toArray := by
          rw [foldl_arr]; simp
        rw [e]
        refine ⟨?_, .str _, H, I.tok _, ⟨_, rfl⟩, q⟩
        show (List.replicate k.toNat a.cps.toList).flatten.toArray.size ≤ sizeLine
        rw [List.size_toArray, PyProof.Rows.lm_len_rep_flat, sizeLine_eq]
        have e2 : a.cps.toList.length = a.length := rfl
        have : k.toNat * a.cps.toList.length = a.length * k.toNat := by rw [e2, Nat.mul_comm]
        omega
/-- once a tuple: the same one -/
theorem tuple_mul1 (l : Addr) (items : Array Value) (n : Nat) (sl : Array (Option Value)) (u : Tok) (dd : Option Addr) :
    Meets (Builtin.«tuple.__mul__» ⟨[.ref l, .int 1 u], []⟩) (fun _ R s => s.heap.get? l = some { cls := .type "tuple", dict := dd, data := .seq items n, slots := sl } ∧ R (.ok (.ret (Value.ref l))) s) :=
  .of_wp fun prog w A R s h => by
    obtain ⟨hp, g, d, tk, os⟩ := s
    obtain ⟨hl, h⟩ := h
    have f1 := AutoSeq1.idx_int
    wp_walk using wpAny_loadPart' hl
    repeat (first
      | (refine wpAny_ite_false (by decide) ?_; wp_walk using wpAny_loadPart' hl)
      | (refine wpAny_ite_true (by simp) ?_; wp_walk using wpAny_loadPart' hl))
    exact ⟨_, rfl, h⟩
def rMul1 (K : PySem.W.Frag) : R2 := fun x y H Q => ∃ l xs, x = .ref l ∧ y = .int 1 ∧ SqT K H l xs ∧ xs ≠ [] ∧ Q (.ref l) H
theorem op_mul1 : OpR X (binaryOp .Mult) (rMul1 X.K) := by
  intro pins s σ H x y v u Q I rx ry h
  obtain ⟨l, xs, rfl, rfl, hT, hne, q⟩ := h
  cases rx
  obtain ⟨t, rfl⟩ := ry
  obtain ⟨its, r, ⟨⟨cls, dd, data, sl⟩, ho, hc, n, hd⟩, hs⟩ := I.tuple hT
  simp only at hc hd
  subst hc hd
  refine wpAny_binaryOp_repeat_ref (T := "tuple") (U := "int") (by decide) ⟨_, ho, rfl⟩ (fun s' => typeIs_int s' 1 t) noFill_tuple_mul F.fills_int_mul F.slot_int_rmul repeat_tuple F.slot_int_index.lookup
    (call_meets F.slot_int_rmul (typeIs_int s 1 t) F.entry_int_rmul (F.args_int_rmul_2 _ _) (int_rmul_tuple 1 t l its.toArray n dd sl)
      ⟨ho, rfl, ⟨_, ho, rfl⟩, call_meets F.slot_tuple_mul ⟨_, ho, rfl⟩ F.entry_tuple_mul (F.args_tuple_mul_2 _ _) (tuple_mul1 l its.toArray n sl t dd) ⟨ho, ?_⟩⟩)
  exact ⟨.ref l, H, I, rfl, q⟩
def rMulU (K : PySem.W.Frag) : R2 := fun x y H Q => ((rI CMul (fun i j => .int (i * j)) x y H Q ∨ rMulS x y H Q) ∨ rRepT K x y H Q) ∨ rMul1 K x y H Q
theorem op_mulU : OpR X (binaryOp .Mult) (rMulU X.K) := OpR.or (OpR.or (OpR.or op_mul op_mulS) op_repT) op_mul1
theorem denRep {xs : List V} {ds : List D} (r : DenL g Z S xs ds) : ∀ n : Nat, DenL g Z S (List.replicate n xs).flatten (List.replicate n ds).flatten
  | 0 => .nil
  | n + 1 => by
    rw [List.replicate_succ, List.replicate_succ, List.flatten_cons, List.flatten_cons]
    exact r.append (denRep r n)
theorem okS_rep {x : List Nat} (h : okS x) (n : Nat) : okS (List.replicate n x).flatten := by
  intro c hc
  obtain ⟨l, hl, hcl⟩ := List.mem_flatten.mp hc
  rw [(List.mem_replicate.mp hl).2] at hcl
  exact h c hcl
theorem does_mulU (G : GoodX g k N sc W X) : Does2 g (fun a b _ => binop .mul a b) (rMulU X.K) := by
  intro Z S H s x y a b d Q q hx hy hf hk
  cases hx with
  | int i =>
    exact .inl (.inl (.inl (does_mul (g := g) Z S H s _ y (.int i) b d Q q (.int i) hy hf hk)))
  | str a ha =>
    cases hy with
    | int j =>
      simp only [binop] at hf
      split at hf
      · rename_i hl
        simp only [Bool.and_eq_true, decide_eq_true_eq] at hl
        simp only [Option.some.injEq] at hf
        subst hf
        refine .inl (.inl (.inr ⟨_, j, rfl, rfl, hl.1.1, hl.1.2, ?_, ?_⟩))
        · simpa [Str.length] using hl.2
        · exact hk _ Z S H q .refl (.str _ (okS_rep ha _))
      · cases hf
    | _ => simp [binop] at hf
  | @tup p xs ds h1 r1 =>
    cases hy with
    | int j =>
      simp only [binop] at hf
      split at hf
      · rename_i hl
        simp only [Bool.and_eq_true, decide_eq_true_eq, Bool.not_eq_true'] at hl
        simp only [Option.some.injEq] at hf
        subst hf
        have hne : xs ≠ [] := by
          intro e
          subst e
          cases r1
          exact absurd hl.2 (by simp)
        by_cases c : j = 1
        · subst c
          refine .inr ⟨p, xs, rfl, rfl, SqT.up h1 G q, hne, ?_⟩
          have e : (List.replicate (1 : Int).toNat ds).flatten = ds := by simp
          rw [e] at hk
          exact hk _ Z S H q .refl (.tup h1 r1)
        · refine .inl (.inr ⟨p, j, xs, rfl, rfl, SqT.up h1 G q, hne, by omega, hl.1.1.2, by rw [r1.length]; exact hl.1.2, fun t n => ?_⟩)
          obtain ⟨q2, x2⟩ := lay q n (notTbl_tup (List.replicate j.toNat xs).flatten)
          exact hk _ _ _ _ q2 x2 (.tup (SqT.of upd_same) ((denRep r1 _).mono x2.zz x2.ss))
      · cases hf
    | _ => simp [binop] at hf
  | _ => cases hy <;> simp [binop] at hf
end
end Ms

set_option Elab.async false
set_option linter.all false
set_option autoImplicit false
set_option maxRecDepth 100000
set_option maxHeartbeats 2000000
namespace Ms
open PySem PySem.Spec L2 SX
open PyProof.Rows hiding St
/-! ## the order of texts, of pairs of a text and a number -/
theorem ltL_lt : ∀ (x y : List Nat), ltL x y = decide (x < y)
  | [], [] => by simp [ltL]
  | [], _ :: _ => by simp [ltL]
  | _ :: _, [] => by simp [ltL]
  | x :: xs, y :: ys => by
    rw [ltL, ltL_lt xs ys]
    have : (x :: xs < y :: ys) ↔ (x < y ∨ x = y ∧ xs < ys) := List.cons_lt_cons_iff
    by_cases h1 : x < y
    · simp [h1, this]
    · by_cases h2 : x = y
      · subst h2; simp [this]
      · simp [h1, h2, this]
section
variable {g : Glob} {k : Nat} {N : List Str} {sc : Scope} {W : WX} {X : Cx} {Z Z' : Hp} {S S' : List Addr} {σ : L2.St} {H H' : Hp} {s s' : Sto} {e : Env} {b : Bs}
def rLtSI (K : PySem.W.Frag) : R2 := fun x y H Q => ∃ (p q : Addr) (a c : List Nat) (i j : Int), x = .ref p ∧ y = .ref q ∧ SqT K H p [strV a, .int i] ∧ SqT K H q [strV c, .int j] ∧ Q (.bl (if a = c then decide (i < j) else ltL a c)) H
theorem op_ltSI (hu : X.A.units < cLine) : OpR X (compareOp .Lt) (rLtSI X.K) := by
  intro pins s σ H x y v u Q I rx ry h
  obtain ⟨p, q, a, c, i, j, rfl, rfl, ha, hb, qq⟩ := h
  cases rx
  cases ry
  obtain ⟨its, r1, p1, _⟩ := I.tuple ha
  obtain ⟨its2, r2, p2, _⟩ := I.tuple hb
  cases r1 with
  | cons ra r1 => cases r1 with
    | cons ri r1 => cases r1
                    cases r2 with
                    | cons rc r2 => cases r2 with
                      | cons rj r2 =>
                        cases r2
                        obtain ⟨t1, rfl⟩ := ra
                        obtain ⟨t2, rfl⟩ := ri
                        obtain ⟨t3, rfl⟩ := rc
                        obtain ⟨t4, rfl⟩ := rj
                        have R := Ob.RcOp.tuples_lt (A := X.A) (s := s) (e := fun n => if n = 0 then decide (a = c) else decide (i = j)) (r := fun n => if n = 0 then ltL a c else decide (i < j)) p1 p2 hu (fun n h1 h2 => by
                          match n, h1 with
                          | 0, _ =>
                            have z : ((⟨a.toArray⟩ : Str) == ⟨c.toArray⟩) = decide (a = c) := by
                              by_cases q : a = c
                              · subst q; simp
                              · rw [decide_eq_false q]; exact beq_eq_false_iff_ne.mpr fun h => q (by injection h with h; simpa using h)
                            show SeqAt.EqAt _ _ _ _ (decide (a = c))
                            rw [← z]
                            exact SeqAt.EqAt.str_str _ _ _ _
                          | 1, _ =>
                            have z : (i == j) = decide (i = j) := by
                              by_cases q : i = j
                              · subst q; simp
                              · rw [decide_eq_false q]; exact beq_eq_false_iff_ne.mpr q
                            show SeqAt.EqAt _ _ _ _ (decide (i = j))
                            rw [← z]
                            exact SeqAt.EqAt.int_int _ _ _ _
                          | n + 2, h1 => exact absurd h1 (by simp)) (fun n h1 h2 _ => by
                          match n, h1 with
                          | 0, _ =>
                            show Ob.RcOp .Lt _ _ _ _ (ltL a c)
                            rw [ltL_lt]
                            intro prog w E Q h
                            exact PyProof.Rows.lt_str (x := ⟨a.toArray⟩) (y := ⟨c.toArray⟩) (by simpa using h)
                          | 1, _ => exact Ob.RcOp.lt_int _ _ _ _
                          | n + 2, h1 => exact absurd h1 (by simp))
                        have ee : Ob.lexAt (fun n => if n = 0 then decide (a = c) else decide (i = j)) (fun n => if n = 0 then ltL a c else decide (i < j)) (decide ((2 : Nat) < 2)) 0 2 = (if a = c then decide (i < j) else ltL a c) := by
                          simp only [Ob.lexAt]
                          by_cases q : a = c
                          · by_cases q2 : i = j
                            · subst q q2; simp
                            · simp [q, q2]
                          · simp [q]
                        have R2 : Ob.RcOp .Lt X.A s (.ref p) (.ref q) (if a = c then decide (i < j) else ltL a c) := by rw [← ee]; exact R
                        have z : wpAny (model X.prog X.w) X.A (compareOp .Lt (.ref p) (.ref q)) (EP X pins σ Q) X.xe s := R2 X.prog X.w X.xe (EP X pins σ Q) ⟨.bl _, H, I, rfl, qq⟩
                        exact z
def rLtU (K : PySem.W.Frag) : R2 := fun x y H Q => (rI0 (fun i j => .bl (decide (i < j))) x y H Q ∨ (∃ i j, x = .str i ∧ y = .str j ∧ Q (.bl (decide (i.cps.toList < j.cps.toList))) H)) ∨ rLtSI K x y H Q
theorem op_ltU (hu : X.A.units < cLine) : OpR X (compareOp .Lt) (rLtU X.K) := OpR.or (OpR.or op_lt op_lt_str) (op_ltSI hu)
def rLeU : R2 := fun x y H Q => rI0 (fun i j => .bl (decide (i ≤ j))) x y H Q ∨ (∃ i j, x = .str i ∧ y = .str j ∧ Q (.bl (!decide (j.cps.toList < i.cps.toList))) H)
theorem op_leU : OpR X (compareOp .LtE) rLeU := OpR.or op_le op_le_str
theorem der_nt {s : Sto} {d d' : D} (h : der s d = d') (hl : ∀ l, d' ≠ .lst l) (ho : ∀ n, d' ≠ .obj n) : d = d' := by
  exact der_obj h ho hl
theorem does_ltU (G : GoodX g k N sc W X) : Does2 g (cmpB .lt) (rLtU X.K) := by
  intro Z S H s x y a b d Q q hx hy hf hk
  unfold cmpB at hf
  cases c : cmpop .lt (der s a) (der s b) with
  | none => rw [c] at hf; cases hf
  | some r =>
    rw [c] at hf
    have hf : D.bl r = d := Option.some.inj hf
    subst hf
    cases ea : der s a with
    | int i =>
      cases eb : der s b with
      | int j =>
        rw [ea, eb] at c
        have c : decide (i < j) = r := Option.some.inj c
        subst c
        have := der_nt ea (fun _ h => nomatch h) (fun _ h => nomatch h)
        subst this
        have := der_nt eb (fun _ h => nomatch h) (fun _ h => nomatch h)
        subst this
        cases hx; cases hy
        exact .inl (.inl ⟨i, j, rfl, rfl, hk _ Z S H q .refl (.bl _)⟩)
      | _ => rw [ea, eb] at c; simp [cmpop] at c
    | str i =>
      cases eb : der s b with
      | str j =>
        rw [ea, eb] at c
        have c : ltL i j = r := Option.some.inj c
        subst c
        have := der_nt ea (fun _ h => nomatch h) (fun _ h => nomatch h)
        subst this
        have := der_nt eb (fun _ h => nomatch h) (fun _ h => nomatch h)
        subst this
        cases hx; cases hy
        refine .inl (.inr ⟨_, _, rfl, rfl, ?_⟩)
        rw [← ltL_lt]
        exact hk _ Z S H q .refl (.bl _)
      | _ => rw [ea, eb] at c; simp [cmpop] at c
    | tup l =>
      cases eb : der s b with
      | tup m =>
        rw [ea, eb] at c
        have := der_nt ea (fun _ h => nomatch h) (fun _ h => nomatch h)
        subst this
        have := der_nt eb (fun _ h => nomatch h) (fun _ h => nomatch h)
        subst this
        have hform : ∃ u i w j, l = [.str u, .int i] ∧ m = [.str w, .int j] ∧ r = (if u = w then decide (i < j) else ltL u w) := by
          unfold cmpop at c
          split at c <;> first | (cases c; done) | skip
          all_goals first
            | (rename_i u i w j h0 h1 h2; injection h1 with h1; injection h2 with h2; exact ⟨u, i, w, j, h1, h2, (Option.some.inj c).symm⟩)
            | (simp at *; done)
        obtain ⟨u, i, w, j, rfl, rfl, rfl⟩ := hform
        cases hx with
        | tup h1 r1 =>
          cases hy with
          | tup h2 r2 =>
            cases r1 with
            | cons a1 r1 => cases r1 with
              | cons a2 r1 =>
                cases r1
                cases r2 with
                | cons b1 r2 => cases r2 with
                  | cons b2 r2 =>
                    cases r2
                    cases a1; cases a2; cases b1; cases b2
                    exact .inr ⟨_, _, u, w, i, j, rfl, rfl, SqT.up h1 G q, SqT.up h2 G q, hk _ Z S H q .refl (.bl _)⟩
      | _ => rw [ea, eb] at c; simp [cmpop] at c
    | _ => rw [ea] at c; simp [cmpop] at c
theorem does_leU : Does2 g (cmpB .le) rLeU := by
  intro Z S H s x y a b d Q q hx hy hf hk
  unfold cmpB at hf
  cases c : cmpop .le (der s a) (der s b) with
  | none => rw [c] at hf; cases hf
  | some r =>
    rw [c] at hf
    have hf : D.bl r = d := Option.some.inj hf
    subst hf
    cases ea : der s a with
    | int i =>
      cases eb : der s b with
      | int j =>
        rw [ea, eb] at c
        have c : decide (i ≤ j) = r := Option.some.inj c
        subst c
        have := der_nt ea (fun _ h => nomatch h) (fun _ h => nomatch h)
        subst this
        have := der_nt eb (fun _ h => nomatch h) (fun _ h => nomatch h)
        subst this
        cases hx; cases hy
        exact .inl ⟨i, j, rfl, rfl, hk _ Z S H q .refl (.bl _)⟩
      | _ => rw [ea, eb] at c; simp [cmpop] at c
    | str i =>
      cases eb : der s b with
      | str j =>
        rw [ea, eb] at c
        have c : (!ltL j i) = r := Option.some.inj c
        subst c
        have := der_nt ea (fun _ h => nomatch h) (fun _ h => nomatch h)
        subst this
        have := der_nt eb (fun _ h => nomatch h) (fun _ h => nomatch h)
        subst this
        cases hx; cases hy
        refine .inr ⟨_, _, rfl, rfl, ?_⟩
        have := hk _ Z S H q .refl (.bl (!ltL j i))
        rw [ltL_lt] at this
        exact this
      | _ => rw [ea, eb] at c; simp [cmpop] at c
    | _ => rw [ea] at c; simp [cmpop] at c
end
end Ms

set_option Elab.async false
set_option linter.all false
set_option autoImplicit false
set_option maxRecDepth 100000
set_option maxHeartbeats 1000000
namespace Ms
open PySem PySem.Spec L2 SX
open PyProof.Rows hiding St
def notStar : Expr → Bool
  | .Starred .. => false
  | _ => true
theorem star1 {e : Expr} {es : List Expr} {env : PySem.Env} (h : notStar e = true) : starEach (e :: es) env = (false, eval e env) :: starEach es env := by
  cases e <;> first | rfl | cases h
section
variable {g : Glob} {k : Nat} {N : List Str} {sc : Scope} {W : WX} {X : Cx} {Z Z' : Hp} {S S' : List Addr} {σ : St} {H H' : Hp} {s s' : Sto} {e : Env} {b : Bs}
theorem tMs_bind {α : Type} {m1 : Env → Sto → Rs (List D)} {kk : List D → Sto → Rs α} {b : Bs} {Z : Hp} {S : List Addr} {e : Env} {s : Sto} {σ : St} {H : Hp} {Q : List V → Hp → Prop} {post : Rs α → Prop}
    (r : Rel g b Z S σ H e s) (hp : post ((m1 e s).bind kk)) (hb : post .bad → False) (hx : ∀ c d s', post (.ex c d s') → outE g W Z S σ H c d s')
    (hk : ∀ d s' v Z' S' H', post (kk d s') → Rel g b Z' S' σ H' e s' → Ext S Z H S' Z' H' → DenL g Z' S' v d → Q v H') : tMs g W m1 σ H Q := by
  refine ⟨b, Z, S, e, s, r, ?_⟩
  cases h : m1 e s with
  | ok d s' =>
    rw [h] at hp
    exact fun v Z' S' H' q x dn => hk d s' v Z' S' H' hp (r.ext' x q) x dn
  | ex c d s' => rw [h] at hp; exact hx c d s' hp
  | bad => rw [h] at hp; exact hb hp
/-- what is wanted of a value's end, of a list's, of a truth's -/
def postE (g : Glob) (W : WX) (Z : Hp) (S : List Addr) (σ : St) (H : Hp) (Q : VK) : Rs D → Prop
  | .ok d s' => ∀ v Z' S' H', StoR g Z' S' H' s' → Ext S Z H S' Z' H' → Den g Z' S' v d → Q v H'
  | .ex c r s' => outE g W Z S σ H c r s'
  | .bad => False
def postL (g : Glob) (W : WX) (Z : Hp) (S : List Addr) (σ : St) (H : Hp) (Q : List V → Hp → Prop) : Rs (List D) → Prop
  | .ok d s' => ∀ v Z' S' H', StoR g Z' S' H' s' → Ext S Z H S' Z' H' → DenL g Z' S' v d → Q v H'
  | .ex c r s' => outE g W Z S σ H c r s'
  | .bad => False
def postB (g : Glob) (W : WX) (Z : Hp) (S : List Addr) (σ : St) (H : Hp) (Q : Bool → Hp → Prop) : Rs Bool → Prop
  | .ok d s' => ∀ Z' S' H', StoR g Z' S' H' s' → Ext S Z H S' Z' H' → Q d H'
  | .ex c r s' => outE g W Z S σ H c r s'
  | .bad => False
theorem postE.back {Z1 : Hp} {S1 : List Addr} {H1 : Hp} {Q : VK} (x : Ext S Z H S1 Z1 H1) : ∀ {r : Rs D}, postE g W Z S σ H Q r → postE g W Z1 S1 σ H1 Q r
  | .ok _ _, h => fun v Z' S' H' q y dn => h v Z' S' H' q (x.trans y q.sz) dn
  | .ex _ _ _, h => outE.back x h
  | .bad, h => h
theorem postL.back {Z1 : Hp} {S1 : List Addr} {H1 : Hp} {Q : List V → Hp → Prop} (x : Ext S Z H S1 Z1 H1) : ∀ {r : Rs (List D)}, postL g W Z S σ H Q r → postL g W Z1 S1 σ H1 Q r
  | .ok _ _, h => fun v Z' S' H' q y dn => h v Z' S' H' q (x.trans y q.sz) dn
  | .ex _ _ _, h => outE.back x h
  | .bad, h => h
theorem postB.back {Z1 : Hp} {S1 : List Addr} {H1 : Hp} {Q : Bool → Hp → Prop} (x : Ext S Z H S1 Z1 H1) : ∀ {r : Rs Bool}, postB g W Z S σ H Q r → postB g W Z1 S1 σ H1 Q r
  | .ok _ _, h => fun Z' S' H' q y => h Z' S' H' q (x.trans y q.sz)
  | .ex _ _ _, h => outE.back x h
  | .bad, h => h
theorem tM_iff {m : M} {Q : VK} : tM g W m σ H Q ↔ ∃ b Z S e s, Rel g b Z S σ H e s ∧ postE g W Z S σ H Q (m e s) := by
  unfold tM
  constructor <;> (rintro ⟨b, Z, S, e, s, R, h⟩; refine ⟨b, Z, S, e, s, R, ?_⟩; revert h; cases m e s <;> exact id)
theorem tMs_iff {m : Env → Sto → Rs (List D)} {Q : List V → Hp → Prop} : tMs g W m σ H Q ↔ ∃ b Z S e s, Rel g b Z S σ H e s ∧ postL g W Z S σ H Q (m e s) := by
  unfold tMs
  constructor <;> (rintro ⟨b, Z, S, e, s, R, h⟩; refine ⟨b, Z, S, e, s, R, ?_⟩; revert h; cases m e s <;> exact id)
theorem tMb_iff {m : Env → Sto → Rs Bool} {Q : Bool → Hp → Prop} : tMb g W m σ H Q ↔ ∃ b Z S e s, Rel g b Z S σ H e s ∧ postB g W Z S σ H Q (m e s) := by
  unfold tMb
  constructor <;> (rintro ⟨b, Z, S, e, s, R, h⟩; refine ⟨b, Z, S, e, s, R, ?_⟩; revert h; cases m e s <;> exact id)
/-- the steps: a value first -/
theorem stepE {m1 : M} {kk : D → Sto → Rs D} {Q0 Q : VK} (R : Rel g b Z S σ H e s) (hp : postE g W Z S σ H Q0 ((m1 e s).bind kk))
    (hk : ∀ d s' v Z' S' H', postE g W Z' S' σ H' Q0 (kk d s') → Rel g b Z' S' σ H' e s' → Ext S Z H S' Z' H' → Den g Z' S' v d → Q v H') : tM g W m1 σ H Q :=
  tM_bind (post := postE g W Z S σ H Q0) R hp (fun h => h) (fun _ _ _ h => h) fun d s' v Z' S' H' h R' x dn => hk d s' v Z' S' H' (h.back x) R' x dn
theorem stepEL {m1 : M} {kk : D → Sto → Rs (List D)} {Q0 : List V → Hp → Prop} {Q : VK} (R : Rel g b Z S σ H e s) (hp : postL g W Z S σ H Q0 ((m1 e s).bind kk))
    (hk : ∀ d s' v Z' S' H', postL g W Z' S' σ H' Q0 (kk d s') → Rel g b Z' S' σ H' e s' → Ext S Z H S' Z' H' → Den g Z' S' v d → Q v H') : tM g W m1 σ H Q :=
  tM_bind (post := postL g W Z S σ H Q0) R hp (fun h => h) (fun _ _ _ h => h) fun d s' v Z' S' H' h R' x dn => hk d s' v Z' S' H' (h.back x) R' x dn
theorem stepEB {m1 : M} {kk : D → Sto → Rs Bool} {Q0 : Bool → Hp → Prop} {Q : VK} (R : Rel g b Z S σ H e s) (hp : postB g W Z S σ H Q0 ((m1 e s).bind kk))
    (hk : ∀ d s' v Z' S' H', postB g W Z' S' σ H' Q0 (kk d s') → Rel g b Z' S' σ H' e s' → Ext S Z H S' Z' H' → Den g Z' S' v d → Q v H') : tM g W m1 σ H Q :=
  tM_bind (post := postB g W Z S σ H Q0) R hp (fun h => h) (fun _ _ _ h => h) fun d s' v Z' S' H' h R' x dn => hk d s' v Z' S' H' (h.back x) R' x dn
theorem stepL {m1 : Env → Sto → Rs (List D)} {kk : List D → Sto → Rs D} {Q0 : VK} {Q : List V → Hp → Prop} (R : Rel g b Z S σ H e s) (hp : postE g W Z S σ H Q0 ((m1 e s).bind kk))
    (hk : ∀ d s' v Z' S' H', postE g W Z' S' σ H' Q0 (kk d s') → Rel g b Z' S' σ H' e s' → Ext S Z H S' Z' H' → DenL g Z' S' v d → Q v H') : tMs g W m1 σ H Q :=
  tMs_bind (post := postE g W Z S σ H Q0) R hp (fun h => h) (fun _ _ _ h => h) fun d s' v Z' S' H' h R' x dn => hk d s' v Z' S' H' (h.back x) R' x dn
theorem stepLL {m1 : Env → Sto → Rs (List D)} {kk : List D → Sto → Rs (List D)} {Q0 : List V → Hp → Prop} {Q : List V → Hp → Prop} (R : Rel g b Z S σ H e s) (hp : postL g W Z S σ H Q0 ((m1 e s).bind kk))
    (hk : ∀ d s' v Z' S' H', postL g W Z' S' σ H' Q0 (kk d s') → Rel g b Z' S' σ H' e s' → Ext S Z H S' Z' H' → DenL g Z' S' v d → Q v H') : tMs g W m1 σ H Q :=
  tMs_bind (post := postL g W Z S σ H Q0) R hp (fun h => h) (fun _ _ _ h => h) fun d s' v Z' S' H' h R' x dn => hk d s' v Z' S' H' (h.back x) R' x dn
theorem stepB {m1 : Env → Sto → Rs Bool} {kk : Bool → Sto → Rs D} {Q0 : VK} {Q : Bool → Hp → Prop} (R : Rel g b Z S σ H e s) (hp : postE g W Z S σ H Q0 ((m1 e s).bind kk))
    (hk : ∀ d s' Z' S' H', postE g W Z' S' σ H' Q0 (kk d s') → Rel g b Z' S' σ H' e s' → Ext S Z H S' Z' H' → Q d H') : tMb g W m1 σ H Q := by
  refine ⟨b, Z, S, e, s, R, ?_⟩
  cases h : m1 e s with
  | ok d s' =>
    rw [h] at hp
    exact fun Z' S' H' q x => hk d s' Z' S' H' (postE.back x hp) (R.ext' x q) x
  | ex c d s' => rw [h] at hp; exact hp
  | bad => rw [h] at hp; exact hp
theorem stepBB {m1 : Env → Sto → Rs Bool} {kk : Bool → Sto → Rs Bool} {Q0 : Bool → Hp → Prop} {Q : Bool → Hp → Prop} (R : Rel g b Z S σ H e s) (hp : postB g W Z S σ H Q0 ((m1 e s).bind kk))
    (hk : ∀ d s' Z' S' H', postB g W Z' S' σ H' Q0 (kk d s') → Rel g b Z' S' σ H' e s' → Ext S Z H S' Z' H' → Q d H') : tMb g W m1 σ H Q := by
  refine ⟨b, Z, S, e, s, R, ?_⟩
  cases h : m1 e s with
  | ok d s' =>
    rw [h] at hp
    exact fun Z' S' H' q x => hk d s' Z' S' H' (postB.back x hp) (R.ext' x q) x
  | ex c d s' => rw [h] at hp; exact hp
  | bad => rw [h] at hp; exact hp

/-! ### arguments -/
theorem pa_nil' : PA X [] (tMs g W fun _ s => .ok [] s) := by
  refine PA.imp pa_nil ?_
  rintro σ H Q ⟨b, Z, S, e, s, R, h⟩
  exact h [] Z S H R.sto .refl .nil
theorem pa_cons' {x : Expr} {xs : List Expr} {m : M} {ms : Env → Sto → Rs (List D)} (ha : PE X x (tM g W m)) (hr : PA X xs (tMs g W ms)) (hs : notStar x = true) :
    PA X (x :: xs) (tMs g W fun e s => (m e s).bind fun x s => (ms e s).bind fun xs s => .ok (x :: xs) s) := by
  refine PA.imp (pa_cons ha hr (star1 hs)) ?_
  intro σ H Q h
  obtain ⟨b, Z, S, e, s, R, h⟩ := tMs_iff.mp h
  refine stepEL R h fun d s' v Z' S' H' h R' _ dn => ?_
  refine stepLL R' h fun d2 s2 v2 Z2 S2 H2 h R2 x2 dn2 => ?_
  exact h (v :: v2) Z2 S2 H2 R2.sto .refl (.cons (x2.den dn) dn2)

/-! ### operations -/
theorem pe_bin {o : Operator} {f : D → D → Sto → Option D} {r : R2} {x y : Expr} {pos : Pos} {m1 m2 : M} (ho : OpR X (binaryOp o) r) (hd : Does2 g f r) (ha : PE X x (tM g W m1)) (hb : PE X y (tM g W m2)) :
    PE X (.BinOp x o y pos) (tM g W fun e s => (m1 e s).bind fun x s => (m2 e s).bind fun y s => Rs.of (f x y s) s) := PE.imp (pe_op ho ha hb) fun _ _ _ h => tM_op hd h
theorem pe_neg {x : Expr} {pos : Pos} {m : M} (ha : PE X x (tM g W m)) : PE X (.UnaryOp .USub x pos) (tM g W fun e s => (m e s).bind fun x s => match x with
    | .int i => .ok (.int (-i)) s
    | _ => .bad) := by
  refine PE.imp (pe_un un_neg ha) ?_
  intro σ H Q h
  obtain ⟨b, Z, S, e, s, R, h⟩ := tM_iff.mp h
  refine stepE R h fun d s' v Z' S' H' h R' _ dn => ?_
  cases dn with
  | int i => exact ⟨i, rfl, h _ Z' S' H' R'.sto .refl (.int _)⟩
  | _ => exact h.elim
theorem pe_cmp2 {o : CmpOp} {f : D → D → Sto → Option D} {r : R2} {x y : Expr} {pos : Pos} {m1 m2 : M} (ho : OpR X (compareOp o) r) (hd : Does2 g f r) (ha : PE X x (tM g W m1)) (hb : PE X y (tM g W m2)) (hm : behindInMarks o y = false) :
    PE X (.Compare x [o] [y] pos) (tM g W fun e s => (m1 e s).bind fun x s => (m2 e s).bind fun y s => Rs.of (f x y s) s) := PE.imp (pe_cmpR ho ha hb hm) fun _ _ _ h => tM_op hd h
/-- a reading of a value as a test, where it is a truth -/
theorem tTest_of {m : M} {t : TE} (ht : ∀ σ H Q, tM g W m σ H Q → t σ H Q) (hb : ∀ e s d s', m e s = .ok d s' → ∃ c, d = .bl c) {Q : Bool → Hp → Prop} (h : tMb g W (fun e s => (m e s).bind truthR) σ H Q) : tTest t σ H Q := by
  obtain ⟨b, Z, S, e, s, R, h⟩ := tMb_iff.mp h
  refine ht _ _ _ (tM_iff.mpr ⟨b, Z, S, e, s, R, ?_⟩)
  cases c : m e s with
  | ok d s' =>
    obtain ⟨k, rfl⟩ := hb _ _ _ _ c
    rw [c] at h
    intro v Z' S' H' q x dn
    cases dn with
    | bl _ => exact ⟨k, rfl, h Z' S' H' q x⟩
  | ex cc d s' => rw [c] at h; exact h
  | bad => rw [c] at h; exact h
theorem bool_of {m1 m2 : M} {f : D → D → Sto → Option D} (hf : ∀ a b s d, f a b s = some d → ∃ c, d = .bl c) (e : Env) (s : Sto) (d : D) (s' : Sto)
    (h : ((m1 e s).bind fun x s => (m2 e s).bind fun y s => Rs.of (f x y s) s) = .ok d s') : ∃ c, d = .bl c := by
  cases c1 : m1 e s with
  | ok x s1 =>
    rw [c1] at h
    simp only [Rs.bind_ok] at h
    cases c2 : m2 e s1 with
    | ok y s2 =>
      rw [c2] at h
      simp only [Rs.bind_ok] at h
      cases c3 : f x y s2 with
      | none => rw [c3] at h; cases h
      | some t =>
        rw [c3] at h
        simp only [Rs.of_some, Rs.ok.injEq] at h
        obtain ⟨rfl, _⟩ := h
        exact hf _ _ _ _ c3
    | ex _ _ _ => rw [c2] at h; cases h
    | bad => rw [c2] at h; cases h
  | ex _ _ _ => rw [c1] at h; cases h
  | bad => rw [c1] at h; cases h
theorem pt_cmp2 {o : CmpOp} {f : D → D → Sto → Option D} {r : R2} {x y : Expr} {pos : Pos} {m1 m2 : M} (ho : OpR X (compareOp o) r) (hd : Does2 g f r) (hf : ∀ a b s d, f a b s = some d → ∃ c, d = .bl c) (ha : PE X x (tM g W m1)) (hb : PE X y (tM g W m2)) (hm : behindInMarks o y = false) :
    PT X (.Compare x [o] [y] pos) (tMb g W fun e s => ((m1 e s).bind fun x s => (m2 e s).bind fun y s => Rs.of (f x y s) s).bind truthR) :=
  PT.imp (pt_cmpR ho ha hb hm) fun _ _ _ h => tTest_of (fun _ _ _ h => tM_op hd h) (bool_of hf) h
/-! ### truth -/
theorem tru_of (G : GoodX g k N sc W X) (q : StoR g Z S H s) {v : V} {d : D} {r : Bool} (h : Den g Z S v d) (ht : truth (der s d) = some r) : TruV X.K v H r := by
  cases e : der s d with
  | lst l =>
    rw [e] at ht
    obtain ⟨a, vs, rfl, hH, rl⟩ := lst_of q h e
    simp only [truth, Option.some.injEq] at ht
    refine .inl ⟨vs, SqL.of hH, ?_⟩
    rw [← ht]
    cases rl <;> rfl
  | tup l =>
    rw [e] at ht
    obtain ⟨a, vs, rfl, hH, rl⟩ := tup_der h e
    simp only [truth, Option.some.injEq] at ht
    refine .inr (.inl ⟨vs, SqT.up hH G q, ?_⟩)
    rw [← ht]
    cases rl <;> rfl
  | non =>
    rw [e] at ht
    have := der_obj e (fun _ q => nomatch q) (fun _ q => nomatch q)
    subst this
    cases h
    simp only [truth, Option.some.injEq] at ht
    exact ht.symm
  | bl c =>
    rw [e] at ht
    have := der_obj e (fun _ q => nomatch q) (fun _ q => nomatch q)
    subst this
    cases h
    simp only [truth, Option.some.injEq] at ht
    exact ht.symm
  | int i =>
    rw [e] at ht
    have := der_obj e (fun _ q => nomatch q) (fun _ q => nomatch q)
    subst this
    cases h
    simp only [truth, Option.some.injEq] at ht
    exact ht.symm
  | str x =>
    rw [e] at ht
    have := der_obj e (fun _ q => nomatch q) (fun _ q => nomatch q)
    subst this
    cases h
    simp only [truth] at ht
    split at ht
    · rename_i hl
      simp only [Option.some.injEq] at ht
      refine ⟨by rw [SX.S_len]; exact of_decide_eq_true hl, ?_⟩
      rw [SX.S_len, ← ht]
      cases x with
      | nil => rfl
      | cons c r =>
        have : ((c :: r).length : Int) ≠ 0 := by simp only [List.length_cons]; omega
        simp only [List.isEmpty_cons, Bool.not_false, List.length_cons, bne_iff_ne, ne_eq]; exact (bne_iff_ne.mpr (by omega)).symm
    · cases ht
  | _ => rw [e] at ht; cases ht
/-- a test, by its value's truth -/
theorem pt_of {x : Expr} {m : M} (G : GoodX g k N sc W X) (ha : PE X x (tM g W m)) (he : ∀ whole, isTrue x X.env whole = (do let v ← whole; standAt x.pos; holding [v] (truthy v))) : PT X x (tMb g W fun e s => (m e s).bind truthR) := by
  refine PT.imp (pt_truth ha he) ?_
  intro σ H Q h
  obtain ⟨b, Z, S, e, s, R, h⟩ := tMb_iff.mp h
  refine stepEB R h fun d s' v Z' S' H' h R' _ dn => ?_
  unfold truthR at h
  cases c : truth (der s' d) with
  | none => rw [c] at h; exact h.elim
  | some r =>
    rw [c] at h
    exact ⟨r, tru_of G R'.sto dn c, h Z' S' H' R'.sto .refl⟩
def boolE (c : D → Sto → Rs Bool) : Prop := True
/-! ### and, or, not -/
theorem pe_and' (G : GoodX g k N sc W X) {x y : Expr} {r : List Expr} {pos : Pos} {m1 m2 : M} (ha : PE X x (tM g W m1)) (hb : PE X (.BoolOp .And (y :: r) pos) (tM g W m2)) :
    PE X (.BoolOp .And (x :: y :: r) pos) (tM g W fun e s => (m1 e s).bind fun x s => (truthR x s).bind fun t s => match t with
    | true => m2 e s
    | false => .ok x s) := by
  refine PE.imp (pe_andT ha hb) ?_
  intro σ H Q h
  obtain ⟨b, Z, S, e, s, R, h⟩ := tM_iff.mp h
  refine stepE R h fun d s' v Z' S' H' h R' _ dn => ?_
  unfold truthR at h
  cases c : truth (der s' d) with
  | none => rw [c] at h; exact h.elim
  | some t =>
    rw [c] at h
    refine ⟨t, tru_of G R'.sto dn c, ?_⟩
    cases t with
    | true => exact tM_iff.mpr ⟨b, Z', S', e, s', R', h⟩
    | false => exact h v Z' S' H' R'.sto .refl dn
theorem pe_or' (G : GoodX g k N sc W X) {x y : Expr} {r : List Expr} {pos : Pos} {m1 m2 : M} (ha : PE X x (tM g W m1)) (hb : PE X (.BoolOp .Or (y :: r) pos) (tM g W m2)) :
    PE X (.BoolOp .Or (x :: y :: r) pos) (tM g W fun e s => (m1 e s).bind fun x s => (truthR x s).bind fun t s => match t with
    | true => .ok x s
    | false => m2 e s) := by
  refine PE.imp (pe_orT ha hb) ?_
  intro σ H Q h
  obtain ⟨b, Z, S, e, s, R, h⟩ := tM_iff.mp h
  refine stepE R h fun d s' v Z' S' H' h R' _ dn => ?_
  unfold truthR at h
  cases c : truth (der s' d) with
  | none => rw [c] at h; exact h.elim
  | some t =>
    rw [c] at h
    refine ⟨t, tru_of G R'.sto dn c, ?_⟩
    cases t with
    | false => exact tM_iff.mpr ⟨b, Z', S', e, s', R', h⟩
    | true => exact h v Z' S' H' R'.sto .refl dn
theorem pe_not' (G : GoodX g k N sc W X) {x : Expr} {pos : Pos} {m : M} (ha : PE X x (tM g W m)) :
    PE X (.UnaryOp .Not x pos) (tM g W fun e s => (m e s).bind fun x s => (truthR x s).bind fun t s => .ok (.bl (!t)) s) := by
  refine PE.imp (pe_notT ha) ?_
  intro σ H Q h
  obtain ⟨b, Z, S, e, s, R, h⟩ := tM_iff.mp h
  refine stepE R h fun d s' v Z' S' H' h R' _ dn => ?_
  unfold truthR at h
  cases c : truth (der s' d) with
  | none => rw [c] at h; exact h.elim
  | some t =>
    rw [c] at h
    exact ⟨t, tru_of G R'.sto dn c, h _ Z' S' H' R'.sto .refl (.bl _)⟩
/-- tests -/
abbrev mB (m : M) : Env → Sto → Rs Bool := fun e s => (m e s).bind truthR
theorem truthR_bl (c : Bool) (s : Sto) : truthR (.bl c) s = .ok c s := rfl
theorem pt_andV (G : GoodX g k N sc W X) {x y : Expr} {r : List Expr} {pos : Pos} {m1 m2 : M} (ha : PT X x (tMb g W (mB m1))) (hb : PW X (.BoolOp .And (y :: r) pos) (tMb g W (mB m2))) :
    PW X (.BoolOp .And (x :: y :: r) pos) (tMb g W (mB fun e s => (m1 e s).bind fun x s => (truthR x s).bind fun t s => match t with
    | true => m2 e s
    | false => .ok x s)) := by
  refine PW.imp (pw_and ha hb) ?_
  intro σ H Q h
  obtain ⟨b, Z, S, e, s, R, h⟩ := tMb_iff.mp h
  refine tMb_iff.mpr ⟨b, Z, S, e, s, R, ?_⟩
  unfold mB at h ⊢
  dsimp only at h
  cases c : m1 e s with
  | ok x s1 =>
    rw [c] at h
    simp only [Rs.bind_ok] at h ⊢
    cases c2 : truthR x s1 with
    | ok t s2 =>
      rw [c2] at h
      have e2 : s2 = s1 ∧ truth (der s1 x) = some t := by
        unfold truthR at c2
        cases c3 : truth (der s1 x) with
        | none => rw [c3] at c2; cases c2
        | some t' => rw [c3] at c2; simp only [Rs.of_some, Rs.ok.injEq] at c2; exact ⟨c2.2.symm, by rw [c2.1]⟩
      obtain ⟨rfl, c3⟩ := e2
      intro Z' S' H' q x1
      cases t with
      | true => exact tMb_iff.mpr ⟨b, Z', S', e, s2, R.ext' x1 q, h.back x1⟩
      | false =>
        simp only [Rs.bind_ok] at h
        unfold truthR at h
        rw [c3] at h
        exact h Z' S' H' q x1
    | ex _ _ _ => rw [c2] at h; exact h
    | bad => rw [c2] at h; exact h
  | ex _ _ _ => rw [c] at h; exact h
  | bad => rw [c] at h; exact h
theorem pt_orV (G : GoodX g k N sc W X) {x y : Expr} {r : List Expr} {pos : Pos} {m1 m2 : M} (ha : PT X x (tMb g W (mB m1))) (hb : PW X (.BoolOp .Or (y :: r) pos) (tMb g W (mB m2))) :
    PW X (.BoolOp .Or (x :: y :: r) pos) (tMb g W (mB fun e s => (m1 e s).bind fun x s => (truthR x s).bind fun t s => match t with
    | true => .ok x s
    | false => m2 e s)) := by
  refine PW.imp (pw_or ha hb) ?_
  intro σ H Q h
  obtain ⟨b, Z, S, e, s, R, h⟩ := tMb_iff.mp h
  refine tMb_iff.mpr ⟨b, Z, S, e, s, R, ?_⟩
  unfold mB at h ⊢
  dsimp only at h
  cases c : m1 e s with
  | ok x s1 =>
    rw [c] at h
    simp only [Rs.bind_ok] at h ⊢
    cases c2 : truthR x s1 with
    | ok t s2 =>
      rw [c2] at h
      have e2 : s2 = s1 ∧ truth (der s1 x) = some t := by
        unfold truthR at c2
        cases c3 : truth (der s1 x) with
        | none => rw [c3] at c2; cases c2
        | some t' => rw [c3] at c2; simp only [Rs.of_some, Rs.ok.injEq] at c2; exact ⟨c2.2.symm, by rw [c2.1]⟩
      obtain ⟨rfl, c3⟩ := e2
      intro Z' S' H' q x1
      cases t with
      | false => exact tMb_iff.mpr ⟨b, Z', S', e, s2, R.ext' x1 q, h.back x1⟩
      | true =>
        simp only [Rs.bind_ok] at h
        unfold truthR at h
        rw [c3] at h
        exact h Z' S' H' q x1
    | ex _ _ _ => rw [c2] at h; exact h
    | bad => rw [c2] at h; exact h
  | ex _ _ _ => rw [c] at h; exact h
  | bad => rw [c] at h; exact h
theorem pt_notV {x : Expr} {pos : Pos} {m : M} (ha : PT X x (tMb g W (mB m))) :
    PT X (.UnaryOp .Not x pos) (tMb g W (mB fun e s => (m e s).bind fun x s => (truthR x s).bind fun t s => .ok (.bl (!t)) s)) := by
  refine PT.imp (pt_not ha) ?_
  intro σ H Q h
  obtain ⟨b, Z, S, e, s, R, h⟩ := tMb_iff.mp h
  refine tMb_iff.mpr ⟨b, Z, S, e, s, R, ?_⟩
  unfold mB at h ⊢
  dsimp only at h
  cases c : m e s with
  | ok x s1 =>
    rw [c] at h
    simp only [Rs.bind_ok] at h ⊢
    cases c2 : truthR x s1 with
    | ok t s2 => rw [c2] at h; exact h
    | ex _ _ _ => rw [c2] at h; exact h
    | bad => rw [c2] at h; exact h
  | ex _ _ _ => rw [c] at h; exact h
  | bad => rw [c] at h; exact h
/-- a if c else b -/
theorem pe_ite' {c x y : Expr} {pos : Pos} {m m1 m2 : M} (hc : PT X c (tMb g W (mB m))) (ha : PE X x (tM g W m1)) (hb : PE X y (tM g W m2)) :
    PE X (.IfExp c x y pos) (tM g W fun e s => (m e s).bind fun x s => (truthR x s).bind fun t s => match t with
    | true => m1 e s
    | false => m2 e s) := by
  refine PE.imp (pe_ifExp hc ha hb) ?_
  intro σ H Q h
  obtain ⟨b, Z, S, e, s, R, h⟩ := tM_iff.mp h
  refine tMb_iff.mpr ⟨b, Z, S, e, s, R, ?_⟩
  unfold mB
  cases c : m e s with
  | ok x s1 =>
    rw [c] at h
    simp only [Rs.bind_ok] at h ⊢
    cases c2 : truthR x s1 with
    | ok t s2 =>
      rw [c2] at h
      intro Z' S' H' q x1
      cases t with
      | true => exact tM_iff.mpr ⟨b, Z', S', e, s2, R.ext' x1 q, h.back x1⟩
      | false => exact tM_iff.mpr ⟨b, Z', S', e, s2, R.ext' x1 q, h.back x1⟩
    | ex _ _ _ => rw [c2] at h; exact h
    | bad => rw [c2] at h; exact h
  | ex _ _ _ => rw [c] at h; exact h
  | bad => rw [c] at h; exact h
end
end Ms

set_option Elab.async false
set_option linter.all false
set_option autoImplicit false
set_option maxRecDepth 100000
set_option maxHeartbeats 1000000
namespace Ms
open PySem PySem.Spec L2 SX
open PyProof.Rows hiding St
section
variable {g : Glob} {k : Nat} {N : List Str} {sc : Scope} {W : WX} {X : Cx} {Z Z' : Hp} {S S' : List Addr} {σ : St} {H H' : Hp} {s s' : Sto} {e : Env} {b : Bs}
/-! ### is None -/
theorem isnon_v {v : V} {d : D} (h : Den g Z S v d) : decide (v = .non) = d.isNon := by
  cases h <;> first | rfl | exact decide_eq_false (fun q => nomatch q)
theorem pe_isN' {x : Expr} {pos p2 : Pos} {j : Nat} {m : M} (ha : PE X x (tM g W m)) : PE X (.Compare x [.Is] [.Constant .none j p2] pos) (tM g W fun e s => (m e s).bind fun x s => .ok (.bl x.isNon) s) := by
  refine PE.imp (pe_cmp (pc_isN ha) rfl) ?_
  intro σ H Q h
  obtain ⟨b, Z, S, e, s, R, h⟩ := tM_iff.mp h
  refine stepE R h fun d s' v Z' S' H' h R' _ dn => ?_
  rw [isnon_v dn]
  exact h _ Z' S' H' R'.sto .refl (.bl _)
theorem pe_notN' {x : Expr} {pos p2 : Pos} {j : Nat} {m : M} (ha : PE X x (tM g W m)) : PE X (.Compare x [.IsNot] [.Constant .none j p2] pos) (tM g W fun e s => (m e s).bind fun x s => .ok (.bl (!x.isNon)) s) := by
  refine PE.imp (pe_cmp (pc_notN ha) rfl) ?_
  intro σ H Q h
  obtain ⟨b, Z, S, e, s, R, h⟩ := tM_iff.mp h
  refine stepE R h fun d s' v Z' S' H' h R' _ dn => ?_
  rw [isnon_v dn]
  exact h _ Z' S' H' R'.sto .refl (.bl _)
theorem pt_isN' {x : Expr} {pos p2 : Pos} {j : Nat} {m : M} (ha : PE X x (tM g W m)) : PT X (.Compare x [.Is] [.Constant .none j p2] pos) (tMb g W (mB fun e s => (m e s).bind fun x s => .ok (.bl x.isNon) s)) := by
  refine PT.imp (pt_cmp (pc_isN ha) rfl) ?_
  intro σ H Q h
  obtain ⟨b, Z, S, e, s, R, h⟩ := tMb_iff.mp h
  unfold mB at h
  dsimp only at h
  refine tM_iff.mpr ⟨b, Z, S, e, s, R, ?_⟩
  cases c : m e s with
  | ok d s1 =>
    rw [c] at h
    exact fun v Z' S' H' q x dn => ⟨_, rfl, by rw [isnon_v dn]; exact h Z' S' H' q x⟩
  | ex _ _ _ => rw [c] at h; exact h
  | bad => rw [c] at h; exact h
theorem pt_notN' {x : Expr} {pos p2 : Pos} {j : Nat} {m : M} (ha : PE X x (tM g W m)) : PT X (.Compare x [.IsNot] [.Constant .none j p2] pos) (tMb g W (mB fun e s => (m e s).bind fun x s => .ok (.bl (!x.isNon)) s)) := by
  refine PT.imp (pt_cmp (pc_notN ha) rfl) ?_
  intro σ H Q h
  obtain ⟨b, Z, S, e, s, R, h⟩ := tMb_iff.mp h
  unfold mB at h
  dsimp only at h
  refine tM_iff.mpr ⟨b, Z, S, e, s, R, ?_⟩
  cases c : m e s with
  | ok d s1 =>
    rw [c] at h
    refine fun v Z' S' H' q x dn => ⟨_, rfl, ?_⟩
    rw [isnon_v dn]; exact h Z' S' H' q x
  | ex _ _ _ => rw [c] at h; exact h
  | bad => rw [c] at h; exact h
/-! ### a op b op c -/
theorem chain_r {f1 f2 : D → D → Sto → Option Bool} {r1 r2 : R2} {m1 m2 m3 : M} {Q : VK}
    (h1 : Does2 g (fun a b s => (f1 a b s).map D.bl) r1) (h2 : Does2 g (fun a b s => (f2 a b s).map D.bl) r2)
    (h : tM g W (fun e s => (m1 e s).bind fun x s => (m2 e s).bind fun y s => (Rs.of (f1 x y s) s).bind fun t s => match t with
      | true => (m3 e s).bind fun z s => Rs.of ((f2 y z s).map D.bl) s
      | false => .ok (.bl false) s) σ H Q) : tChain r1 r2 (tM g W m1) (tM g W m2) (tM g W m3) σ H Q := by
  obtain ⟨b, Z, S, e, s, R, h⟩ := tM_iff.mp h
  refine stepE R h fun d1 s1 v1 Z1 S1 H1 h R1 _ dn1 => ?_
  refine stepE R1 h fun d2 s2 v2 Z2 S2 H2 h R2 x2 dn2 => ?_
  cases c : f1 d1 d2 s2 with
  | none => rw [c] at h; exact h.elim
  | some t =>
    rw [c] at h
    refine h1 Z2 S2 H2 s2 v1 v2 d1 d2 (.bl t) _ R2.sto (x2.den dn1) dn2 (by simp [c]) ?_
    intro v Z3 S3 H3 q3 x3 dn3
    cases dn3 with
    | bl _ =>
      refine ⟨t, rfl, ?_⟩
      cases t with
      | false => exact (postE.back x3 h) (.bl false) Z3 S3 H3 q3 .refl (.bl _)
      | true =>
        refine stepE (R2.ext' x3 q3) (postE.back x3 h) fun d4 s4 v4 Z4 S4 H4 h R4 x4 dn4 => ?_
        cases c2 : f2 d2 d4 s4 with
        | none => rw [c2] at h; exact h.elim
        | some t2 =>
          rw [c2] at h
          exact h2 Z4 S4 H4 s4 v2 v4 d2 d4 (.bl t2) _ R4.sto (x4.den (x3.den dn2)) dn4 (by simp [c2]) fun v Z5 S5 H5 q5 x5 dn5 => h v Z5 S5 H5 q5 x5 dn5
theorem pe_chain' {o1 o2 : CmpOp} {f1 f2 : D → D → Sto → Option Bool} {r1 r2 : R2} {x y z : Expr} {pos : Pos} {m1 m2 m3 : M} (ho : OpR X (compareOp o1) r1) (ho2 : OpR X (compareOp o2) r2)
    (h1 : Does2 g (fun a b s => (f1 a b s).map D.bl) r1) (h2 : Does2 g (fun a b s => (f2 a b s).map D.bl) r2) (ha : PE X x (tM g W m1)) (hb : PE X y (tM g W m2)) (hc : PE X z (tM g W m3)) (hm : lastMarks [o1, o2] [y, z] = false) :
    PE X (.Compare x [o1, o2] [y, z] pos) (tM g W fun e s => (m1 e s).bind fun x s => (m2 e s).bind fun y s => (Rs.of (f1 x y s) s).bind fun t s => match t with
      | true => (m3 e s).bind fun z s => Rs.of ((f2 y z s).map D.bl) s
      | false => .ok (.bl false) s) := PE.imp (pe_chain ho ho2 ha hb hc hm) fun _ _ _ h => chain_r h1 h2 h
theorem pt_chain' {o1 o2 : CmpOp} {f1 f2 : D → D → Sto → Option Bool} {r1 r2 : R2} {x y z : Expr} {pos : Pos} {m1 m2 m3 : M} (ho : OpR X (compareOp o1) r1) (ho2 : OpR X (compareOp o2) r2)
    (h1 : Does2 g (fun a b s => (f1 a b s).map D.bl) r1) (h2 : Does2 g (fun a b s => (f2 a b s).map D.bl) r2) (ha : PE X x (tM g W m1)) (hb : PE X y (tM g W m2)) (hc : PE X z (tM g W m3)) (hm : lastMarks [o1, o2] [y, z] = false) :
    PT X (.Compare x [o1, o2] [y, z] pos) (tMb g W (mB fun e s => (m1 e s).bind fun x s => (m2 e s).bind fun y s => (Rs.of (f1 x y s) s).bind fun t s => match t with
      | true => (m3 e s).bind fun z s => Rs.of ((f2 y z s).map D.bl) s
      | false => .ok (.bl false) s)) := by
  refine PT.imp (pt_chain ho ho2 ha hb hc hm) fun σ H Q h => tTest_of (fun _ _ _ h => chain_r h1 h2 h) ?_ h
  intro e s d s' h
  cases c1 : m1 e s with
  | ok x s1 =>
    rw [c1] at h
    simp only [Rs.bind_ok] at h
    cases c2 : m2 e s1 with
    | ok y s2 =>
      rw [c2] at h
      simp only [Rs.bind_ok] at h
      cases c3 : f1 x y s2 with
      | none => rw [c3] at h; cases h
      | some t =>
        rw [c3] at h
        simp only [Rs.of_some, Rs.bind_ok] at h
        cases t with
        | false => simp only [Rs.ok.injEq] at h; exact ⟨_, h.1.symm⟩
        | true =>
          simp only at h
          cases c4 : m3 e s2 with
          | ok z s3 =>
            rw [c4] at h
            simp only [Rs.bind_ok] at h
            cases c5 : f2 y z s3 with
            | none => rw [c5] at h; cases h
            | some t2 => rw [c5] at h; simp only [Option.map_some, Rs.of_some, Rs.ok.injEq] at h; exact ⟨_, h.1.symm⟩
          | ex _ _ _ => rw [c4] at h; cases h
          | bad => rw [c4] at h; cases h
    | ex _ _ _ => rw [c2] at h; cases h
    | bad => rw [c2] at h; cases h
  | ex _ _ _ => rw [c1] at h; cases h
  | bad => rw [c1] at h; cases h
/-! ### built-ins -/
theorem pe_b1B {id : String} {r : List V → Hp → VK → Prop} {f : D → Sto → Option D} {x : Expr} {nm : Str} {p pos : Pos} {m : M} (hc : CallR X (.builtin id) r) (hd : DoesC g f r) (hg : Gl X nm) (hm : X.mg nm = none)
    (hv : bootBuiltins nm = some (.builtin id)) (ha : PE X x (tM g W m)) (hs : notStar x = true) (hn : nm ≠ "__name__") (hdb : (nm == ("__debug__" : Str)) = false) :
    PE X (.Call (.Name nm p) [x] [] pos) (tM g W fun e s => (m e s).bind fun x s => Rs.of (f x s) s) := by
  refine PE.imp (pe_callB hc hg hm hv (pa_cons ha pa_nil (star1 hs)) hn hdb (star1 hs) rfl) ?_
  intro σ H Q h
  exact tM_un hd h
theorem pe_b1T {T : String} {r : List V → Hp → VK → Prop} {f : D → Sto → Option D} {x : Expr} {nm : Str} {p pos : Pos} {m : M} (hc : CallR X (.type T) r) (hd : DoesC g f r) (hg : Gl X nm) (hm : X.mg nm = none)
    (hv : bootBuiltins nm = some (.type T)) (ha : PE X x (tM g W m)) (hs : notStar x = true) (hn : nm ≠ "__name__") (hdb : (nm == ("__debug__" : Str)) = false) :
    PE X (.Call (.Name nm p) [x] [] pos) (tM g W fun e s => (m e s).bind fun x s => Rs.of (f x s) s) := by
  refine PE.imp (pe_callTy hc hg hm hv (pa_cons ha pa_nil (star1 hs)) hn hdb (star1 hs) rfl) ?_
  intro σ H Q h
  exact tM_un hd h
theorem pe_isin' (G : GoodX g k N sc W X) {x : Expr} {nm : Str} {p p2 p3 pos : Pos} {m : M} {t : Ty} (ht : t ≠ .tupLst) (hg : Gl X "isinstance") (hm : X.mg "isinstance" = none) (hg2 : Gl X nm) (hm2 : X.mg nm = none)
    (hv2 : bootBuiltins nm = some (.type t.nm)) (hn : nm ≠ "__name__") (hdb : (nm == ("__debug__" : Str)) = false) (ha : PE X x (tM g W m)) (hs : notStar x = true) :
    PE X (.Call (.Name "isinstance" p) [x, .Name nm p2] [] pos) (tM g W fun e s => (m e s).bind fun x s => Rs.of ((isTy s x t).map D.bl) s) := by
  have hT : PE X (.Name nm p2) (tC (.ty t.nm)) := pe_bltn hg2 hm2 hv2 rfl hn hdb
  refine PE.imp (pe_callB call_isi hg hm boot_isinstance (pa_cons ha (pa_cons hT pa_nil rfl) (star1 hs)) (by decide) (by decide) (star1 hs) rfl) ?_
  intro σ H Q h
  exact tM_un (does_isin G ht) h
theorem pe_isinTL' (G : GoodX g k N sc W X) {x : Expr} {kk : Nat} {p p2 p3 p4 pos : Pos} {m : M} (hg : Gl X "isinstance") (hm : X.mg "isinstance" = none) (hg2 : Gl X "tuple") (hm2 : X.mg "tuple" = none) (hg3 : Gl X "list") (hm3 : X.mg "list" = none)
    (ha : PE X x (tM g W m)) (hs : notStar x = true) :
    PE X (.Call (.Name "isinstance" p) [x, .Tuple [.Name "tuple" p2, .Name "list" p3] kk p4] [] pos) (tM g W fun e s => (m e s).bind fun x s => Rs.of ((isTy s x .tupLst).map D.bl) s) := by
  have h1 : PE X (.Name "tuple" p2) (tC (.ty "tuple")) := pe_bltn hg2 hm2 (by decide +kernel) rfl (by decide) (by decide)
  have h2 : PE X (.Name "list" p3) (tC (.ty "list")) := pe_bltn hg3 hm3 (by decide +kernel) rfl (by decide) (by decide)
  refine PE.imp (pe_callB call_isiT hg hm boot_isinstance (pa_cons ha (pa_cons (pe_tup (pa_cons h1 (pa_cons h2 pa_nil rfl) rfl)) pa_nil rfl) (star1 hs)) (by decide) (by decide) (star1 hs) rfl) ?_
  intro σ H Q h
  obtain ⟨b, Z, S, e, s, R, h⟩ := tM_iff.mp h
  refine stepE R h fun d s' v Z' S' H' h R' _ dn => ?_
  refine ⟨by show 2 ≤ sizeLine; decide, fun p n => ?_⟩
  cases c : (isTy s' d .tupLst).map D.bl with
  | none => rw [c] at h; exact h.elim
  | some r =>
    rw [c] at h
    obtain ⟨q1, x1⟩ := lay R'.sto n (notTbl_tup [.ty "tuple", .ty "list"])
    exact does_isinTL G _ _ _ _ _ _ _ _ q1 (x1.den dn) c (fun v2 Z2 S2 H2 q2 x2 d2 => h v2 Z2 S2 H2 q2 (x1.trans x2 q2.sz) d2) upd_same
/-! ### displays -/
theorem pe_tup' {xs : List Expr} {kk : Nat} {pos : Pos} {ms : Env → Sto → Rs (List D)} (ha : PA X xs (tMs g W ms)) : PE X (.Tuple xs kk pos) (tM g W fun e s => (ms e s).bind fun xs s => match decide (xs.length ≤ lim) with
    | true => .ok (.tup xs) s
    | false => .bad) := by
  refine PE.imp (pe_tup ha) ?_
  intro σ H Q h
  obtain ⟨b, Z, S, e, s, R, h⟩ := tM_iff.mp h
  refine stepL R h fun d s' v Z' S' H' h R' _ dn => ?_
  cases c : decide (d.length ≤ lim) with
  | false => rw [c] at h; exact h.elim
  | true =>
    rw [c] at h
    refine ⟨by rw [dn.length]; exact of_decide_eq_true c, fun p n => ?_⟩
    obtain ⟨q1, x1⟩ := lay R'.sto n (notTbl_tup v)
    exact h _ _ _ _ q1 x1 (.tup (.inl (Rd.of upd_same)) (x1.denL dn))
/-- a fresh list: from its making -/
def postF (g : Glob) (W : WX) (Z : Hp) (S : List Addr) (σ : St) (H : Hp) (Q : VK) : Rs (List D) → Prop
  | .ok d s' => ∀ p vs Z' S' H', StoR g Z' S' H' s' → Ext S Z H S' Z' H' → H' p = some (.lst vs) → DenL g Z' S' vs d → H p = none → Z' p = none → p ∉ S' → Q (.ref p) H'
  | .ex c r s' => outE g W Z S σ H c r s'
  | .bad => False
theorem tMf_iff {m : Env → Sto → Rs (List D)} {Q : VK} : tMf g W m σ H Q ↔ ∃ b Z S e s, Rel g b Z S σ H e s ∧ postF g W Z S σ H Q (m e s) := by
  unfold tMf
  constructor <;> (rintro ⟨b, Z, S, e, s, R, h⟩; refine ⟨b, Z, S, e, s, R, ?_⟩; revert h; cases m e s <;> exact id)
theorem postF.back {Z1 : Hp} {S1 : List Addr} {H1 : Hp} {Q : VK} (x : Ext S Z H S1 Z1 H1) : ∀ {r : Rs (List D)}, postF g W Z S σ H Q r → postF g W Z1 S1 σ H1 Q r
  | .ok _ _, h => fun p vs Z' S' H' q y hp dn n zp ns => by
    refine h p vs Z' S' H' q (x.trans y q.sz) hp dn ?_ zp ns
    by_cases m : p ∈ S
    · exact absurd (y.ss.subset (x.ss.subset m)) ns
    · exact x.none n m
  | .ex _ _ _, h => outE.back x h
  | .bad, h => h
end
end Ms

set_option Elab.async false
set_option linter.all false
set_option autoImplicit false
set_option maxRecDepth 100000
set_option maxHeartbeats 1000000
namespace Ms
open PySem PySem.Spec L2 SX
open PyProof.Rows hiding St
def noSuper : Expr → Bool
  | .Call (.Name id _) [] [] _ => id != ("super" : Str)
  | _ => true
def notSlice : Expr → Bool
  | .Slice .. => false
  | _ => true
def notSet : Expr → Bool
  | .Set .. => false
  | _ => true
theorem base_of {o : Expr} {m : Str} {env : PySem.Env} {w : Sem Value} (h : noSuper o = true) : attributeBase o m env w = w := by
  unfold attributeBase
  split
  · rename_i id p pos
    have : (id != ("super" : Str)) = true := h
    rw [this]; simp
  · rfl
theorem plainIx_of {b : Expr} (h : notSlice b = true) : PlainIx b := by
  intro o i
  cases b <;> first | rfl | cases h
theorem notSet_of {b : Expr} (h : notSet b = true) (env : PySem.Env) : ∀ x, foldedSetIterable b env x = pure x := by
  intro x
  cases b <;> first | rfl | cases h
section
variable {g : Glob} {k : Nat} {N : List Str} {sc : Scope} {W : WX} {X : Cx} {Z Z' : Hp} {S S' : List Addr} {σ : St} {H H' : Hp} {s s' : Sto} {e : Env} {b : Bs}
theorem stepEF {m1 : M} {kk : D → Sto → Rs (List D)} {Q0 : VK} {Q : VK} (R : Rel g b Z S σ H e s) (hp : postF g W Z S σ H Q0 ((m1 e s).bind kk))
    (hk : ∀ d s' v Z' S' H', postF g W Z' S' σ H' Q0 (kk d s') → Rel g b Z' S' σ H' e s' → Ext S Z H S' Z' H' → Den g Z' S' v d → Q v H') : tM g W m1 σ H Q :=
  tM_bind (post := postF g W Z S σ H Q0) R hp (fun h => h) (fun _ _ _ h => h) fun d s' v Z' S' H' h R' x dn => hk d s' v Z' S' H' (h.back x) R' x dn
theorem stepLF {m1 : Env → Sto → Rs (List D)} {kk : List D → Sto → Rs (List D)} {Q0 : VK} {Q : List V → Hp → Prop} (R : Rel g b Z S σ H e s) (hp : postF g W Z S σ H Q0 ((m1 e s).bind kk))
    (hk : ∀ d s' v Z' S' H', postF g W Z' S' σ H' Q0 (kk d s') → Rel g b Z' S' σ H' e s' → Ext S Z H S' Z' H' → DenL g Z' S' v d → Q v H') : tMs g W m1 σ H Q :=
  tMs_bind (post := postF g W Z S σ H Q0) R hp (fun h => h) (fun _ _ _ h => h) fun d s' v Z' S' H' h R' x dn => hk d s' v Z' S' H' (h.back x) R' x dn
/-- what one owns is frozen -/
theorem freeze (q : StoR g Z S H s) {p : Addr} {o : HO} (h : H p = some o) (z : Z p = none) (n : p ∉ S) (t : notTbl o := by exact notTbl_lst _) : StoR g (upd Z p o) S H s ∧ HLe Z (upd Z p o) := by
  have zz : HLe Z (upd Z p o) := upd_le z
  refine ⟨⟨fun a u e => ?_, q.sl, fun i c a h1 h2 => ?_, q.sd, fun a m => ?_, q.tb, fun a u e => ?_⟩, zz⟩
  · by_cases c : a = p
    · subst c; rw [upd_same] at e; rw [h]; exact e
    · rw [upd_ne c] at e; exact q.z _ _ e
  · have := q.st i c a h1 h2
    revert this
    cases c with
    | lst l => rintro ⟨vs, h, r⟩; exact ⟨vs, h, r.mono zz (List.prefix_refl _)⟩
    | ins c fs =>
      rintro ⟨dx, vs, h, r⟩
      refine ⟨dx, vs, h, ?_⟩
      clear h h1
      induction r with
      | nil => exact .nil
      | cons d _ ih => exact .cons (d.mono zz (List.prefix_refl _)) ih
  · rw [upd_ne (by intro c; subst c; exact n m)]; exact q.sz a m
  · by_cases c : a = p
    · subst c; rw [upd_same] at e; injection e with e; rw [← e]; exact t
    · rw [upd_ne c] at e; exact q.zt a u e
theorem pe_fl {x : Expr} {m : Env → Sto → Rs (List D)} (h : PE X x (tMf g W m)) : PE X x (tM g W fun e s => (m e s).bind fun xs s => .ok (.lst xs) s) := by
  refine PE.imp h ?_
  intro σ H Q h
  obtain ⟨b, Z, S, e, s, R, h⟩ := tM_iff.mp h
  refine tMf_iff.mpr ⟨b, Z, S, e, s, R, ?_⟩
  cases c : m e s with
  | ok d s1 =>
    rw [c] at h
    intro p vs Z' S' H' q x hp dn n zp ns
    obtain ⟨q1, zz⟩ := freeze q hp zp ns
    refine h (.ref p) (upd Z' p (.lst vs)) S' H' q1 ⟨x.zz.trans zz, x.ss, x.hh, x.tt, x.nw, fun a u e => ?_⟩ (.lst upd_same (dn.mono zz (List.prefix_refl _)))
    by_cases ea : a = p
    · subst ea; exact .inr n
    · rw [upd_ne ea] at e; exact x.zn a u e
  | ex _ _ _ => rw [c] at h; exact h
  | bad => rw [c] at h; exact h
theorem pf_lst {xs : List Expr} {pos : Pos} {ms : Env → Sto → Rs (List D)} (ha : PA X xs (tMs g W ms)) : PE X (.List xs pos) (tMf g W fun e s => (ms e s).bind fun xs s => match decide (xs.length ≤ lim) with
    | true => .ok xs s
    | false => .bad) := by
  refine PE.imp (pe_lst ha) ?_
  intro σ H Q h
  obtain ⟨b, Z, S, e, s, R, h⟩ := tMf_iff.mp h
  refine stepLF R h fun d s' v Z' S' H' h R' _ dn => ?_
  cases c : decide (d.length ≤ lim) with
  | false => rw [c] at h; exact h.elim
  | true =>
    rw [c] at h
    refine ⟨by rw [dn.length]; exact of_decide_eq_true c, fun p n => ?_⟩
    obtain ⟨q1, x1, zp, ns⟩ := layO R'.sto n (notTbl_lst v)
    exact h p v _ _ _ q1 x1 upd_same dn n zp ns
theorem pf_cat {x y : Expr} {pos : Pos} {m1 m2 : M} (ha : PE X x (tM g W m1)) (hb : PE X y (tM g W m2)) :
    PE X (.BinOp x .Add y pos) (tMf g W fun e s => (m1 e s).bind fun x s => (m2 e s).bind fun y s => Rs.of (catL (der s x) (der s y)) s) := by
  refine PE.imp (pe_op op_cat ha hb) ?_
  intro σ H Q h
  obtain ⟨b, Z, S, e, s, R, h⟩ := tMf_iff.mp h
  refine stepEF R h fun d s1 v Z1 S1 H1 h R1 _ dn => ?_
  refine stepEF R1 h fun d2 s2 v2 Z2 S2 H2 h R2 x2 dn2 => ?_
  have dn := x2.den dn
  cases e1 : der s2 d with
  | lst l1 =>
    rw [e1] at h
    cases e2 : der s2 d2 with
    | lst l2 =>
      rw [e2] at h
      simp only [catL] at h
      cases c : decide (l1.length + l2.length ≤ lim) with
      | false => rw [c] at h; exact h.elim
      | true =>
        rw [c] at h
        obtain ⟨a1, vs, rfl, h1, r1⟩ := lst_of R2.sto dn e1
        obtain ⟨a2, ws, rfl, h2, r2⟩ := lst_of R2.sto dn2 e2
        refine ⟨a1, a2, vs, ws, rfl, rfl, h1, h2, by rw [r1.length, r2.length]; exact of_decide_eq_true c, fun p n => ?_⟩
        obtain ⟨q1, x1, zp, ns⟩ := layO R2.sto n (notTbl_lst (vs ++ ws))
        exact h p _ _ _ _ q1 x1 upd_same (r1.append r2) n zp ns
    | _ => rw [e2] at h; exact h.elim
  | _ => rw [e1] at h; exact h.elim
theorem pf_list (G : GoodX g k N sc W X) {x : Expr} {p pos : Pos} {m : M} (hg : Gl X "list") (hm : X.mg "list" = none) (ha : PE X x (tM g W m)) (hs : notStar x = true) :
    PE X (.Call (.Name "list" p) [x] [] pos) (tMf g W fun e s => (m e s).bind fun x s => match der s x with
    | .lst l | .tup l => .ok l s
    | _ => .bad) := by
  refine PE.imp (pe_callTy call_list_of hg hm (by decide +kernel) (pa_cons ha pa_nil (star1 hs)) (by decide) (by decide) (star1 hs) rfl) ?_
  intro σ H Q h
  obtain ⟨b, Z, S, e, s, R, h⟩ := tMf_iff.mp h
  refine stepEF R h fun d s1 v Z1 S1 H1 h R1 _ dn => ?_
  cases e1 : der s1 d with
  | lst l =>
    rw [e1] at h
    obtain ⟨a1, vs, rfl, h1, r1⟩ := lst_of R1.sto dn e1
    refine ⟨a1, vs, rfl, .inl (SqL.of h1), fun p n => ?_⟩
    obtain ⟨q1, x1, zp, ns⟩ := layO R1.sto n (notTbl_lst vs)
    exact h p _ _ _ _ q1 x1 upd_same r1 n zp ns
  | tup l =>
    rw [e1] at h
    obtain ⟨a1, vs, rfl, h1, r1⟩ := tup_der dn e1
    refine ⟨a1, vs, rfl, .inr (SqT.up h1 G R1.sto), fun p n => ?_⟩
    obtain ⟨q1, x1, zp, ns⟩ := layO R1.sto n (notTbl_lst vs)
    exact h p _ _ _ _ q1 x1 upd_same r1 n zp ns
  | _ => rw [e1] at h; exact h.elim
/-! ### slices -/
theorem cut_v {vs : List V} {ds : List D} (r : DenL g Z S vs ds) (lo hi : Option Int) : DenL g Z S (cutV vs lo hi) (cut ds lo hi) := by
  unfold cutV cut
  rw [r.length]
  exact (r.drop _).take _
theorem cut_ints (ns : List Int) (lo hi : Option Int) : cutV (ns.map V.int) lo hi = (cut ns lo hi).map V.int := by
  unfold cutV cut
  rw [List.length_map, ← List.map_drop, ← List.map_take]; rfl
/-- a slice's part -/
def tMo (g : Glob) (W : WX) (m : Env → Sto → Rs (Option Int)) : TO := fun σ H Q => ∃ b Z S e s, Rel g b Z S σ H e s ∧ match m e s with
  | .ok d s' => ∀ Z' S' H', StoR g Z' S' H' s' → Ext S Z H S' Z' H' → Q d H'
  | .ex c r s' => outE g W Z S σ H c r s'
  | .bad => False
theorem PO.imp {x : Option Expr} {t t' : TO} (h : PO X x t) (i : ∀ σ H Q, t' σ H Q → t σ H Q) : PO X x t' := ⟨fun pins s σ H Q I r => h.run pins s σ H Q I (i _ _ _ r)⟩
theorem po_none' : PO X none (tMo g W fun _ s => .ok none s) := by
  refine PO.imp po_none ?_
  rintro σ H Q ⟨b, Z, S, e, s, R, h⟩
  exact h Z S H R.sto .refl
theorem po_some' {x : Expr} {m : M} (ha : PE X x (tM g W m)) : PO X (some x) (tMo g W fun e s => (m e s).bind fun x s => (Rs.of (optInt x) s).bind fun i s => .ok (some i) s) := by
  refine PO.imp (po_some ha) ?_
  rintro σ H Q ⟨b, Z, S, e, s, R, h⟩
  refine tM_iff.mpr ⟨b, Z, S, e, s, R, ?_⟩
  dsimp only at h
  cases c : m e s with
  | ok d s1 =>
    rw [c] at h
    intro v Z' S' H' q x dn
    cases dn with
    | int i => exact ⟨i, rfl, h Z' S' H' q x⟩
    | _ => exact h.elim
  | ex _ _ _ => rw [c] at h; exact h
  | bad => rw [c] at h; exact h
theorem stepO {m1 : Env → Sto → Rs (Option Int)} {kk : Option Int → Sto → Rs D} {Q0 : VK} {Q : Option Int → Hp → Prop} (R : Rel g b Z S σ H e s) (hp : postE g W Z S σ H Q0 ((m1 e s).bind kk))
    (hk : ∀ d s' Z' S' H', postE g W Z' S' σ H' Q0 (kk d s') → Rel g b Z' S' σ H' e s' → Ext S Z H S' Z' H' → Q d H') : tMo g W m1 σ H Q := by
  refine ⟨b, Z, S, e, s, R, ?_⟩
  cases h : m1 e s with
  | ok d s' =>
    rw [h] at hp
    exact fun Z' S' H' q x => hk d s' Z' S' H' (postE.back x hp) (R.ext' x q) x
  | ex c d s' => rw [h] at hp; exact hp
  | bad => rw [h] at hp; exact hp
theorem stepOF {m1 : Env → Sto → Rs (Option Int)} {kk : Option Int → Sto → Rs (List D)} {Q0 : VK} {Q : Option Int → Hp → Prop} (R : Rel g b Z S σ H e s) (hp : postF g W Z S σ H Q0 ((m1 e s).bind kk))
    (hk : ∀ d s' Z' S' H', postF g W Z' S' σ H' Q0 (kk d s') → Rel g b Z' S' σ H' e s' → Ext S Z H S' Z' H' → Q d H') : tMo g W m1 σ H Q := by
  refine ⟨b, Z, S, e, s, R, ?_⟩
  cases h : m1 e s with
  | ok d s' =>
    rw [h] at hp
    exact fun Z' S' H' q x => hk d s' Z' S' H' (postF.back x hp) (R.ext' x q) x
  | ex c d s' => rw [h] at hp; exact hp
  | bad => rw [h] at hp; exact hp
theorem pf_slc (G : GoodX g k N sc W X) {x : Expr} {lo hi : Option Expr} {pos p2 : Pos} {m : M} {m1 m2 : Env → Sto → Rs (Option Int)} (ha : PE X x (tM g W m)) (hl : PO X lo (tMo g W m1)) (hh : PO X hi (tMo g W m2)) :
    PE X (.Subscript x (.Slice lo hi none p2) pos) (tMf g W fun e s => (m e s).bind fun x s => (m1 e s).bind fun l s => (m2 e s).bind fun h s => Rs.of (sliceL (der s x) l h) s) := by
  refine PE.imp (pe_slice sl_list ha hl hh) ?_
  intro σ H Q h
  obtain ⟨b, Z, S, e, s, R, h⟩ := tMf_iff.mp h
  refine stepEF R h fun d s1 v Z1 S1 H1 h R1 _ dn => ?_
  refine stepOF R1 h fun l s2 Z2 S2 H2 h R2 x2 => ?_
  refine stepOF R2 h fun u s3 Z3 S3 H3 h R3 x3 => ?_
  have dn := x3.den (x2.den dn)
  cases e1 : der s3 d with
  | lst ls =>
    rw [e1] at h
    obtain ⟨a1, vs, rfl, h1, r1⟩ := lst_of R3.sto dn e1
    refine ⟨a1, vs, rfl, SqL.of h1, fun p n => ?_⟩
    obtain ⟨q1, x1, zp, ns⟩ := layO R3.sto n (notTbl_lst (cutV vs l u))
    exact h p _ _ _ _ q1 x1 upd_same (cut_v r1 l u) n zp ns
  | frz ns =>
    have := der_obj e1 (fun _ q => nomatch q) (fun _ q => nomatch q)
    subst this
    rw [e1] at h
    cases dn with
    | frz hq =>
      refine ⟨_, _, rfl, SqL.up hq G R3.sto, fun p n => ?_⟩
      obtain ⟨q1, x1, zp, nn⟩ := layO R3.sto n (notTbl_lst (cutV (ns.map V.int) l u))
      refine h p _ _ _ _ q1 x1 upd_same ?_ n zp nn
      have r1 : DenL g Z3 S3 (ns.map V.int) (ns.map D.int) := DenL.ints Z3 S3 ns
      exact cut_v r1 l u
  | _ => rw [e1] at h; exact h.elim
theorem cut_all {α : Type} (l : List α) (lo hi : Option Int) (h : HT.sIx l.length 0 lo = 0 ∧ HT.sIx l.length l.length hi = l.length) : cut l lo hi = l := by
  unfold cut
  rw [show bnd l.length 0 lo = 0 from h.1, show bnd l.length l.length hi = l.length from h.2]
  simp
def rSlU (K : PySem.W.Frag) : V → Option Int → Option Int → Hp → VK → Prop := fun x lo hi H Q => rSlA K x lo hi H Q ∨ rSlS x lo hi H Q
theorem pe_sl' (G : GoodX g k N sc W X) {x : Expr} {lo hi : Option Expr} {pos p2 : Pos} {m : M} {m1 m2 : Env → Sto → Rs (Option Int)} (ha : PE X x (tM g W m)) (hl : PO X lo (tMo g W m1)) (hh : PO X hi (tMo g W m2)) :
    PE X (.Subscript x (.Slice lo hi none p2) pos) (tM g W fun e s => (m e s).bind fun x s => (m1 e s).bind fun l s => (m2 e s).bind fun h s => Rs.of (sliceV x l h) s) := by
  refine PE.imp (pe_slice (SlR.or sl_tupA sl_str) ha hl hh) ?_
  intro σ H Q h
  obtain ⟨b, Z, S, e, s, R, h⟩ := tM_iff.mp h
  refine stepE R h fun d s1 v Z1 S1 H1 h R1 _ dn => ?_
  refine stepO R1 h fun l s2 Z2 S2 H2 h R2 x2 => ?_
  refine stepO R2 h fun u s3 Z3 S3 H3 h R3 x3 => ?_
  have dn := x3.den (x2.den dn)
  cases dn with
  | @tup a xs ds h1 r1 =>
    refine .inl ⟨a, xs, rfl, SqT.up h1 G R3.sto, fun c => ?_, fun c p n => ?_⟩
    · rw [r1.length] at c
      simp only [sliceV, cut_all ds l u c] at h
      exact h _ _ _ _ R3.sto .refl (.tup h1 r1)
    · obtain ⟨q1, x1⟩ := lay R3.sto n (notTbl_tup (cutV xs l u))
      exact h _ _ _ _ q1 x1 (.tup (.inl (Rd.of upd_same)) (x1.denL (cut_v r1 l u)))
  | str t ht =>
    simp only [sliceV] at h
    cases c : decide (t.length ≤ lim) with
    | false => rw [c] at h; exact h.elim
    | true =>
      rw [c] at h
      refine .inr ⟨_, rfl, by rw [SX.S_len]; exact of_decide_eq_true c, ?_⟩
      have := h (strV (cut t l u)) _ _ _ R3.sto .refl (.str _ fun c hc => ht c (List.mem_of_mem_drop (List.mem_of_mem_take hc)))
      have e1 : cutS (SX.S t) l u = ⟨(cut t l u).toArray⟩ := by unfold cutS cut; rw [SX.S_len]; rfl
      rw [e1]; exact this
  | _ => exact h.elim
theorem pe_ix' (G : GoodX g k N sc W X) {x y : Expr} {pos : Pos} {m1 m2 : M} (ha : PE X x (tM g W m1)) (hb : PE X y (tM g W m2)) (hs : notSlice y = true) :
    PE X (.Subscript x y pos) (tM g W fun e s => (m1 e s).bind fun x s => (m2 e s).bind fun y s => Rs.of (index (der s x) y) s) :=
  PE.imp (pe_ix (ix_U G.hu) ha hb (plainIx_of hs)) fun _ _ _ h => tM_op (does_ix G) h
end
end Ms

set_option Elab.async false
set_option linter.all false
set_option autoImplicit false
set_option maxRecDepth 100000
set_option maxHeartbeats 1000000
namespace Ms
open PySem PySem.Spec L2 SX
open PyProof.Rows hiding St
def allPlain : List Expr → Bool
  | [] => true
  | e :: r => notStar e && allPlain r
theorem noStar_any {pos : Pos} {env : PySem.Env} : ∀ {es : List Expr}, allPlain es = true → (backTo pos (starEach es env)).any (·.1) = false
  | [], _ => rfl
  | e :: r, h => by
    unfold allPlain at h
    rw [Bool.and_eq_true] at h
    rw [star1 h.1]
    have := noStar_any (pos := pos) (env := env) h.2
    unfold backTo at this ⊢
    rw [List.map_cons, List.any_cons, this]; rfl
/-- a call's promise: what the evaluator says at level k -/
def specOf (g : Glob) (k f : Nat) : Sp := fun vs H Q E => ∃ Z S s ds, StoR g Z S H s ∧ DenL g Z S vs ds ∧ match callK g.G g.T k f ds s with
  | .ok d s' => ∀ v Z' S' H', StoR g Z' S' H' s' → Ext S Z H S' Z' H' → Den g Z' S' v d → Q v H'
  | .ex c r s' => ∀ dd Z' S' H', StoR g Z' S' H' s' → Ext S Z H S' Z' H' → ExR g Z' S' H' r dd → E (.ref (g.xa c)) dd H'
  | .bad => False
/-- the def number f stands under its name and keeps its promise -/
def FnAt (g : Glob) (k f : Nat) : Prop := ∃ fd ps, FnOk g.P g.w g.K g.mg g.base (L2N.CX g.P g.w) (4 * k) (g.fa f) fd ps (specOf g k f) ∧ PySem.W.keepIn g.K (.ref (g.fa f)) = true ∧ Binds g.K fd ps []
section
variable {g : Glob} {k : Nat} {N : List Str} {sc : Scope} {W : WX} {X : Cx} {Z Z' : Hp} {S S' : List Addr} {σ : St} {H H' : Hp} {s s' : Sto} {e : Env} {b : Bs}
theorem FnAt.at (G : GoodX g k N sc W X) {f : Nat} (F : FnAt g k f) : ∃ fd ps, FnOk X.prog X.w X.K X.mg X.base (L2N.CX X.prog X.w) (4 * k) (g.fa f) fd ps (specOf g k f) ∧ PySem.W.keepIn X.K (.ref (g.fa f)) = true ∧ Binds X.K fd ps [] := by
  rw [G.hP, G.hw, G.hK, G.hmg, G.hbase]; exact F
theorem GoodX.r0 (G : GoodX g k N sc W X) : Room (4 * k) X.A := G.room.mono (Nat.le_succ _)
/-- a call's end, as the caller wants it -/
theorem spec_of {f : Nat} {vs : List V} {ds : List D} {Q : VK} (q : StoR g Z S H s) (dn : DenL g Z S vs ds) (h : postE g W Z S σ H Q (callK g.G g.T k f ds s)) : specOf g k f vs H Q (WE W σ) := by
  refine ⟨Z, S, s, ds, q, dn, ?_⟩
  cases c : callK g.G g.T k f ds s with
  | ok d s' => rw [c] at h; exact h
  | ex cc r s' => rw [c] at h; exact h
  | bad => rw [c] at h; exact h
theorem pe_callE (G : GoodX g k N sc W X) {f : Nat} {x : Str} {p pos : Pos} {y : Expr} {ys : List Expr} {ms : Env → Sto → Rs (List D)} (F : FnAt g k f) (hg : Gl X x) (hm : X.mg x = some (.ref (g.fa f)))
    (ha : PA X (y :: ys) (tMs g W ms)) (hp : allPlain (y :: ys) = true) (hdb : (x == ("__debug__" : Str)) = false) :
    PE X (.Call (.Name x p) (y :: ys) [] pos) (tM g W fun e s => (ms e s).bind fun xs s => callK g.G g.T k f xs s) := by
  obtain ⟨fd, ps, F, hk, hb⟩ := F.at G
  unfold allPlain at hp
  rw [Bool.and_eq_true] at hp
  refine PE.imp (pe_callS F G.r0 hg hm hk hb (fun σ => L2N.passAt G.tk σ) ha hdb (star1 hp.1) (noStar_any hp.2)) ?_
  intro σ H Q h
  obtain ⟨b, Z, S, e, s, R, h⟩ := tM_iff.mp h
  refine stepL R h fun d s' v Z' S' H' h R' _ dn => ?_
  exact spec_of R'.sto dn h
/-- a call of a value that is known to be a def -/
theorem pe_dynE (G : GoodX g k N sc W X) {pos : Pos} {fx y : Expr} {ys : List Expr} {m : M} {ms : Env → Sto → Rs (List D)} (F : ∀ f, g.dyf f = true → FnAt g k f) (hf : PE X fx (tM g W m))
    (ha : PA X (y :: ys) (tMs g W ms)) (hp : allPlain (y :: ys) = true)
    (he : eval (.Call fx (y :: ys) [] pos) X.env = (do callWith pos (← eval fx X.env) [] (backTo pos (starEach (y :: ys) X.env)) (backToKw pos (keywordEach [] X.env)))) :
    PE X (.Call fx (y :: ys) [] pos) (tM g W fun e s => (m e s).bind fun x s => (Rs.of x.fnOf s).bind fun f s => (ms e s).bind fun xs s => callK g.G g.T k f xs s) := by
  unfold allPlain at hp
  rw [Bool.and_eq_true] at hp
  refine ⟨fun pins s σ H Q I h => ?_⟩
  rw [he]
  obtain ⟨b, Z, S, e, s0, R, h⟩ := tM_iff.mp h
  refine wpAny_bind (thn (hf.run pins s σ H (fun v H1 => ∃ d s1 Z1 S1, Rel g b Z1 S1 σ H1 e s1 ∧ Den g Z1 S1 v d ∧ postE g W Z1 S1 σ H1 Q ((Rs.of d.fnOf s1).bind fun f s => (ms e s).bind fun xs s => callK g.G g.T k f xs s)) I (stepE R h fun d s' v Z' S' H' h R' _ dn => ⟨d, s', Z', S', R', dn, h⟩)) ?_)
  rintro u s1 ⟨v, H1, I1, rv, d, st1, Z1, S1, R1, dn, h⟩
  cases dn with
  | fn f hF =>
    obtain rfl : u = Value.ref (g.fa f) := rv
    obtain ⟨fd, ps, F, hk, hb⟩ := (F f hF).at G
    refine PySem.W.callWith_K (h₀ := X.base) I.ok.mod.kin hk (thn (ha.run pos pins s1 σ H1 (fun vs H2 => specOf g k f vs H2 Q (WE W σ)) I1 (stepL R1 h fun d s' v Z' S' H' h R' _ dn => spec_of R'.sto dn h)) fun us s2 ⟨vs, H2, I2, r, q⟩ => ⟨I2.kIn, ?_⟩) (star1 hp.1) (noStar_any hp.2)
    exact run_fnS F G.r0 hb (L2N.passAt G.tk σ) I2 r q
  | _ => exact h.elim
/-! ### instances -/
theorem fld_look {f : Nat} (inj : ∀ a b, g.fnm a = g.fnm b → a = b) : ∀ {vs : List (Str × V)} {ds : List (Nat × D)}, FldR g Z S vs ds → match lookF f ds with
    | none => vs.lookup (g.fnm f) = none
    | some d => ∃ v, vs.lookup (g.fnm f) = some v ∧ Den g Z S v d
  | _, _, .nil => rfl
  | _, _, .cons (f := f0) (v := v) (d := d) (vs := vs) (ds := ds) h r => by
    have ih := fld_look (f := f) inj r
    unfold lookF
    by_cases c : f0 = f
    · subst c
      simp only [if_true]
      exact ⟨v, by simp [List.lookup_cons], h⟩
    · simp only [if_neg c]
      have e : (g.fnm f == g.fnm f0) = false := beq_eq_false_iff_ne.mpr fun q => c (inj _ _ q).symm
      rw [List.lookup_cons, e]; exact ih
theorem fld_put {f : Nat} {v : V} {d : D} (inj : ∀ a b, g.fnm a = g.fnm b → a = b) (h : Den g Z S v d) : ∀ {vs : List (Str × V)} {ds : List (Nat × D)}, FldR g Z S vs ds → FldR g Z S (L2.putF (g.fnm f) v vs) (Ms.putF f d ds)
  | _, _, .nil => .cons h .nil
  | _, _, .cons (f := f0) (v := v0) (d := d0) (vs := vs) (ds := ds) h0 r => by
    unfold L2.putF Ms.putF
    by_cases c : f0 = f
    · subst c
      simp only [if_true]
      exact .cons h r
    · rw [if_neg (fun q => c (inj _ _ q)), if_neg c]
      exact .cons h0 (fld_put inj h r)
theorem fld_len : ∀ {vs : List (Str × V)} {ds : List (Nat × D)}, FldR g Z S vs ds → vs.length = ds.length
  | _, _, .nil => rfl
  | _, _, .cons _ r => by simp [fld_len r]
/-- what is asked of a field's name at a class -/
structure FldOk (g : Glob) (c f : Nat) : Prop where
  inj : ∀ a b, g.fnm a = g.fnm b → a = b
  cls : Cls g.K (g.ca c)
  no : NoAttr g.K (g.ca c) (g.fnm f)
theorem pe_fldE (G : GoodX g k N sc W X) {o : Expr} {pos : Pos} {m : M} {f : Nat} {nm : Str} (hnm : nm = g.fnm f) (ho : ∀ c, FldOk g c f) (ha : PE X o (tM g W m)) (hs : noSuper o = true) :
    PE X (.Attribute o nm pos) (tM g W fun e s => (m e s).bind fun x s => Rs.of (fldOf s f x) s) := by
  subst hnm
  refine PE.imp (pe_fld ha (base_of hs)) ?_
  intro σ H Q h
  obtain ⟨b, Z, S, e, s, R, h⟩ := tM_iff.mp h
  refine stepE R h fun d s' v Z' S' H' h R' _ dn => ?_
  cases dn with
  | @obj n a hn =>
    unfold fldOf at h
    dsimp only at h
    cases c : s'[n]? with
    | none => rw [c] at h; exact h.elim
    | some t =>
      rw [c] at h
      cases t with
      | lst l => exact h.elim
      | ins c0 fs =>
        simp only at h
        obtain ⟨dx, vs, h1, r⟩ := R'.sto.st n _ a c hn
        have := fld_look (f := f) (ho c0).inj r
        cases c2 : lookF f fs with
        | none => rw [c2] at h; exact h.elim
        | some d2 =>
          rw [c2] at this h
          obtain ⟨v2, h2, dn2⟩ := this
          exact ⟨a, g.ca c0, dx, vs, v2, rfl, h1, by rw [G.hK]; exact (ho c0).cls, by rw [G.hK]; exact (ho c0).no, h2, h v2 Z' S' H' R'.sto .refl dn2⟩
  | _ => exact h.elim
/-- a method's standing: class c, its def f -/
structure MetOk (g : Glob) (c f : Nat) (nm : Str) : Prop where
  cls : Cls g.K (g.ca c)
  meth : Meth g.K (g.ca c) nm (g.fa f)
  no : ∀ a, g.fnm a ≠ nm
theorem no_field {nm : Str} (no : ∀ a, g.fnm a ≠ nm) : ∀ {vs : List (Str × V)} {ds : List (Nat × D)}, FldR g Z S vs ds → vs.lookup nm = none
  | _, _, .nil => rfl
  | _, _, .cons (f := f0) h r => by
    rw [List.lookup_cons, beq_eq_false_iff_ne.mpr (Ne.symm (no f0))]
    exact no_field no r
theorem cls_at {n : Nat} {c : Nat} {v : V} {d : D} {u : Unit} (q : StoR g Z S H s) (dn : Den g Z S v d) (h : noneAll c s d = some u) : ∃ n a dx vs fs, v = .ref a ∧ d = .obj n ∧ H a = some (.ins (g.ca c) dx vs) ∧ FldR g Z S vs fs := by
  unfold noneAll at h
  cases c1 : clsOf s d with
  | none => rw [c1] at h; cases h
  | some c0 =>
    rw [c1] at h
    dsimp only at h
    split at h
    · rename_i e
      subst e
      unfold clsOf at c1
      cases dn with
      | @obj n a hn =>
        dsimp only at c1
        cases c2 : s[n]? with
        | none => rw [c2] at c1; cases c1
        | some t =>
          rw [c2] at c1
          cases t with
          | lst l => cases c1
          | ins c0 fs =>
            injection c1 with c1
            subst c1
            obtain ⟨dx, vs, h1, r⟩ := q.st n _ a c2 hn
            exact ⟨n, a, dx, vs, fs, rfl, rfl, h1, r⟩
      | _ => cases c1
    · cases h
theorem pe_meE {pl : Sem Bool} (G : GoodX g k N sc W X) {c f : Nat} {nm : Str} {o y : Expr} {ys : List Expr} {apos pos : Pos} {m : M} {ms : Env → Sto → Rs (List D)} (F : FnAt g k f) (M : MetOk g c f nm) (ho : PE X o (tM g W m))
    (ha : PA X (y :: ys) (tMs g W ms)) (hp : allPlain (y :: ys) = true)
    (ht : eval (.Call (.Attribute o nm apos) (y :: ys) [] pos) X.env = (do
      let ov ← eval o X.env
      standAt apos.atName
      let (f, first) ← holding [ov] (getMethod ov nm pl)
      callWith pos f first (backTo pos (starEach (y :: ys) X.env)) (backToKw pos (keywordEach [] X.env)))) :
    PE X (.Call (.Attribute o nm apos) (y :: ys) [] pos) (tM g W fun e s => (m e s).bind fun x s => (Rs.of (noneAll c s x) s).bind fun _ s => (ms e s).bind fun xs s => callK g.G g.T k f (x :: xs) s) := by
  obtain ⟨fd, ps, F, hk, hb⟩ := F.at G
  unfold allPlain at hp
  rw [Bool.and_eq_true] at hp
  refine ⟨fun pins s σ H Q I h => ?_⟩
  obtain ⟨b, Z, S, e, s0, R, h⟩ := tM_iff.mp h
  refine PySem.W.methodCall_KW (pl := pl) (thn (ho.run pins s σ H (fun v H1 => ∃ d s1 Z1 S1, Rel g b Z1 S1 σ H1 e s1 ∧ Den g Z1 S1 v d ∧ postE g W Z1 S1 σ H1 Q ((Rs.of (noneAll c s1 d) s1).bind fun _ s => (ms e s).bind fun xs s => callK g.G g.T k f (d :: xs) s)) I (stepE R h fun d s' v Z' S' H' h R' _ dn => ⟨d, s', Z', S', R', dn, h⟩)) ?_) ht
  rintro u s1 ⟨v, H1, I1, rv, d, st1, Z1, S1, R1, dn, h⟩
  cases c2 : noneAll c st1 d with
  | none => rw [c2] at h; exact h.elim
  | some u0 =>
    rw [c2] at h
    obtain ⟨n, a, dx, vs, fs, rfl, rfl, h1, r⟩ := cls_at (n := 0) R1.sto dn c2
    obtain rfl : u = Value.ref a := rv
    have hm : Meth X.K (g.ca c) nm (g.fa f) := by rw [G.hK]; exact M.meth
    refine getmeth_ok I1 h1 (by rw [G.hK]; exact M.cls) hm (no_field M.no r) ?_
    refine PySem.W.callWith_K (first := [.ref a]) (h₀ := X.base) I.ok.mod.kin hm.kp (thn (ha.run pos pins s1 σ H1 (fun vs H2 => specOf g k f (.ref a :: vs) H2 Q (WE W σ)) I1 (stepL R1 h fun d s' v Z' S' H' h R' x dn2 => spec_of R'.sto (.cons (x.den dn) dn2) h)) fun us s2 ⟨vs, H2, I2, r, q⟩ => ⟨I2.kIn, ?_⟩) (star1 hp.1) (noStar_any hp.2)
    exact run_fnS (us := .ref a :: us) (vs := .ref a :: vs) F G.r0 hb (L2N.passAt G.tk σ) I2 (.cons rfl r) q
theorem pe_me0E {pl : Sem Bool} (G : GoodX g k N sc W X) {c f : Nat} {nm : Str} {o : Expr} {apos pos : Pos} {m : M} (F : FnAt g k f) (M : MetOk g c f nm) (ho : PE X o (tM g W m))
    (ht : eval (.Call (.Attribute o nm apos) [] [] pos) X.env = (do
      let ov ← eval o X.env
      standAt apos.atName
      let (f, first) ← holding [ov] (getMethod ov nm pl)
      callWith pos f first (backTo pos (starEach [] X.env)) (backToKw pos (keywordEach [] X.env)))) :
    PE X (.Call (.Attribute o nm apos) [] [] pos) (tM g W fun e s => (m e s).bind fun x s => (Rs.of (noneAll c s x) s).bind fun _ s => callK g.G g.T k f [x] s) := by
  obtain ⟨fd, ps, F, hk, hb⟩ := F.at G
  refine ⟨fun pins s σ H Q I h => ?_⟩
  obtain ⟨b, Z, S, e, s0, R, h⟩ := tM_iff.mp h
  refine PySem.W.methodCall_KW (pl := pl) (thn (ho.run pins s σ H (fun v H1 => ∃ d s1 Z1 S1, Rel g b Z1 S1 σ H1 e s1 ∧ Den g Z1 S1 v d ∧ postE g W Z1 S1 σ H1 Q ((Rs.of (noneAll c s1 d) s1).bind fun _ s => callK g.G g.T k f [d] s)) I (stepE R h fun d s' v Z' S' H' h R' _ dn => ⟨d, s', Z', S', R', dn, h⟩)) ?_) ht
  rintro u s1 ⟨v, H1, I1, rv, d, st1, Z1, S1, R1, dn, h⟩
  cases c2 : noneAll c st1 d with
  | none => rw [c2] at h; exact h.elim
  | some u0 =>
    rw [c2] at h
    obtain ⟨n, a, dx, vs, fs, rfl, rfl, h1, r⟩ := cls_at (n := 0) R1.sto dn c2
    obtain rfl : u = Value.ref a := rv
    have hm : Meth X.K (g.ca c) nm (g.fa f) := by rw [G.hK]; exact M.meth
    refine getmeth_ok I1 h1 (by rw [G.hK]; exact M.cls) hm (no_field M.no r) ?_
    exact PySem.W.callWith_K0 (first := [.ref a]) I1.kIn hm.kp (run_fnS (us := [.ref a]) (vs := [.ref a]) F G.r0 hb (L2N.passAt G.tk σ) I1 (.cons rfl .nil) (spec_of R1.sto (.cons dn .nil) h))
/-! ### making -/
/-- what making an instance of class c by its __init__ f asks -/
structure MkOk (g : Glob) (k c f : Nat) : Prop where
  mkk : Mk g.K (g.ca c) (g.fa f)
  fn : ∃ fd ps, FnOk g.P g.w g.K g.mg g.base (L2N.CX g.P g.w) (4 * k) (g.fa f) fd ps (specOf g k f) ∧ Binds g.K fd ps []
/-- a new cell -/
theorem newCell (q : StoR g Z S H s) {a : Addr} {c : Cell} {H' : Hp} (n : H a = none) (hh : HLe H H') (hz : ∀ p, H' p ≠ H p → H p = none) (hc : CellR g Z (S ++ [a]) H' a c) :
    StoR g Z (S ++ [a]) H' (s ++ [c]) ∧ Ext S Z H (S ++ [a]) Z H' := by
  have zp : Z a = none := by
    cases h : Z a with
    | none => rfl
    | some u => rw [q.z _ _ h] at n; cases n
  have ns : a ∉ S := fun m => by
    obtain ⟨i, hi, e⟩ := List.getElem_of_mem m
    have hs : i < s.length := by rw [q.sl]; exact hi
    have := q.st i s[i] a (List.getElem?_eq_getElem hs) (by rw [List.getElem?_eq_getElem hi, e])
    revert this
    cases s[i] with
    | lst l => rintro ⟨vs, h, _⟩; rw [n] at h; cases h
    | ins c fs => rintro ⟨dx, vs, h, _⟩; rw [n] at h; cases h
  have pr : S <+: S ++ [a] := List.prefix_append _ _
  refine ⟨⟨fun p u h => hh _ _ (q.z _ _ h), by simp [q.sl], fun i t p h1 h2 => ?_, ?_, fun p m => ?_, LamX.Tabs.ext q.tb hh, q.zt⟩, ⟨HLe.refl _, pr, fun p u h _ _ => hh _ _ h, fun p ps h => ⟨ps, hh _ _ h⟩, fun p m => ?_, fun p u h => .inl h⟩⟩
  · by_cases hi : i < s.length
    · rw [List.getElem?_append_left hi] at h1
      rw [List.getElem?_append_left (by rw [← q.sl]; exact hi)] at h2
      have := q.st i t p h1 h2
      revert this
      cases t with
      | lst l => rintro ⟨vs, h, r⟩; exact ⟨vs, hh _ _ h, r.mono (HLe.refl _) pr⟩
      | ins c fs =>
        rintro ⟨dx, vs, h, r⟩
        refine ⟨dx, vs, hh _ _ h, ?_⟩
        clear h h1
        induction r with
        | nil => exact .nil
        | cons d _ ih => exact .cons (d.mono (HLe.refl _) pr) ih
    · have e1 : i = s.length := by
        have := (List.getElem?_eq_some_iff.mp h1).1
        simp at this; omega
      subst e1
      simp at h1
      rw [q.sl] at h2
      simp at h2
      subst h1 h2
      exact hc
  · rw [List.nodup_append]
    exact ⟨q.sd, by simp, fun x m y hy => by rw [List.mem_singleton] at hy; subst hy; intro e; subst e; exact ns m⟩
  · rcases List.mem_append.mp m with m | m
    · exact q.sz p m
    · rw [List.mem_singleton] at m; subst m; exact zp
  · rcases List.mem_append.mp m with m | m
    · exact .inl m
    · rw [List.mem_singleton] at m; subst m; exact .inr n
theorem pe_newL {xs : List Expr} {pos : Pos} {ms : Env → Sto → Rs (List D)} (ha : PA X xs (tMs g W ms)) : PE X (.List xs pos) (tM g W fun e s => (ms e s).bind fun xs s => match decide (xs.length ≤ lim) with
    | true => .ok (.obj s.length) (s ++ [.lst xs])
    | false => .bad) := by
  refine PE.imp (pe_lst ha) ?_
  intro σ H Q h
  obtain ⟨b, Z, S, e, s, R, h⟩ := tM_iff.mp h
  refine stepL R h fun d s' v Z' S' H' h R' _ dn => ?_
  cases c : decide (d.length ≤ lim) with
  | false => rw [c] at h; exact h.elim
  | true =>
    rw [c] at h
    refine ⟨by rw [dn.length]; exact of_decide_eq_true c, fun p n => ?_⟩
    obtain ⟨q1, x1⟩ := newCell (c := .lst d) R'.sto n (upd_le (o := .lst v) n) (fun p0 ne => by
      by_cases e0 : p0 = p
      · subst e0; exact n
      · rw [upd_ne e0] at ne; exact absurd rfl ne) ⟨v, upd_same, dn.mono (HLe.refl _) (List.prefix_append _ _)⟩
    refine h _ _ _ _ q1 x1 (.obj ?_)
    rw [R'.sto.sl]; simp
theorem run_mkS (G : GoodX g k N sc W X) {c f : Nat} {pins : List (Addr × Obj)} {σ : St} {H : Hp} {s : Shared} {Q : VK} {us : List Value} {vs : List V} (M : MkOk g k c f) (I : Inv X pins σ H s) (r : Vals vs us)
    (h : ∀ x dx, H x = none → H dx = none → dx ≠ x → specOf g k f (.ref x :: vs) (upd (upd H dx (.own x)) x (.ins (g.ca c) dx [])) (fun v H2 => v = .non ∧ Q (.ref x) H2) (WE W σ)) :
    wpAny (model X.prog X.w) X.A (call (.ref (g.ca c)) us) (EP X pins σ Q) X.xe s := by
  obtain ⟨fd, ps, F, hb⟩ := M.fn
  have MK := M.mkk
  rw [← G.hK] at MK
  rw [← G.hP, ← G.hw, ← G.hK, ← G.hmg, ← G.hbase] at F
  rw [← G.hK] at hb
  have hq := h (s.heap.objs.size + 1) s.heap.objs.size (I.hok.fresh (Nat.le_succ _)) (I.hok.fresh (Nat.le_refl _)) (Nat.ne_of_lt (Nat.lt_succ_self _))
  have I2 := Inv.made (C := g.ca c) I
  have r2 : Vals (V.ref (s.heap.objs.size + 1) :: vs) (Value.ref (s.heap.objs.size + 1) :: us) := .cons rfl r
  have hl : (Value.ref (s.heap.objs.size + 1) :: us ++ []).length = ps.length := by
    have e := r2.length
    rw [F.len _ _ _ _ hq] at e
    rw [List.append_nil]
    exact e.symm
  have bb := hb _ (Value.ref (s.heap.objs.size + 1) :: us) I2.kIn hl
  rw [List.append_nil] at bb
  refine wpAny_call (make_map (f := g.fa f) I.kIn MK.makes MK.init (beq_iff_eq.mp MK.fn) (codeAny_mono (F.run _ X.stack _ _ ⟨Value.ref (s.heap.objs.size + 1) :: us, []⟩ (Value.ref (s.heap.objs.size + 1) :: us) _ _ (WE W σ) (G.room.make (g.ca c) us [])
    (I2.env0.make (g.ca c) us []) bb r2 hq) fun r s' hq' => ?_))
  cases r with
  | error e => exact L2N.passAt G.tk σ pins _ _ e s' I2 hq'
  | ok fl =>
    cases fl with
    | ret u =>
      obtain ⟨v, H', I3, rv, ev, q3⟩ := I2.after hq'
      subst ev
      exact ⟨rv, ⟨V.ref (s.heap.objs.size + 1), H', I3, rfl, q3⟩⟩
    | next => exact False.elim hq'
    | brk => exact False.elim hq'
    | cont => exact False.elim hq'
/-- a new instance's cell -/
theorem mk_cell (q : StoR g Z S H s) {c : Nat} {x dx : Addr} (n : H x = none) (n2 : H dx = none) (ne : dx ≠ x) :
    StoR g Z (S ++ [x]) (upd (upd H dx (.own x)) x (.ins (g.ca c) dx [])) (s ++ [.ins c []]) ∧ Ext S Z H (S ++ [x]) Z (upd (upd H dx (.own x)) x (.ins (g.ca c) dx [])) := by
  refine newCell q n (fun a o h => ?_) (fun p ne0 => ?_) ⟨dx, [], upd_same, .nil⟩
  · rw [upd_ne (ne_of_none h n), upd_ne (ne_of_none h n2)]; exact h
  · by_cases e0 : p = x
    · subst e0; exact n
    · rw [upd_ne e0] at ne0
      by_cases e1 : p = dx
      · subst e1; exact n2
      · rw [upd_ne e1] at ne0; exact absurd rfl ne0
theorem mk_spec (G : GoodX g k N sc W X) {c f : Nat} {vs : List V} {ds : List D} {Q : VK} (R : StoR g Z S H s) (dn : DenL g Z S vs ds) (h : postE g W Z S σ H Q (mkC (callK g.G g.T k) c f ds s)) :
    ∀ x dx, H x = none → H dx = none → dx ≠ x → specOf g k f (.ref x :: vs) (upd (upd H dx (.own x)) x (.ins (g.ca c) dx [])) (fun v H2 => v = .non ∧ Q (.ref x) H2) (WE W σ) := by
  intro x dx n n2 ne
  obtain ⟨q1, x1⟩ := mk_cell (c := c) R n n2 ne
  have hx : (S ++ [x])[s.length]? = some x := by rw [R.sl]; simp
  refine ⟨Z, S ++ [x], s ++ [.ins c []], .obj s.length :: ds, q1, .cons (.obj hx) (x1.denL dn), ?_⟩
  unfold mkC at h
  cases c2 : callK g.G g.T k f (.obj s.length :: ds) (s ++ [.ins c []]) with
  | ok d s2 =>
    rw [c2] at h
    intro v Z' S' H' q2 x2 dn2
    cases dn2 with
    | non => exact ⟨rfl, h _ Z' S' H' q2 (x1.trans x2 q2.sz) (.obj (pre_get x2.ss hx))⟩
    | _ => exact h.elim
  | ex cc r s2 =>
    rw [c2] at h
    intro dd Z' S' H' q2 x2 er
    exact h dd Z' S' H' q2 (x1.trans x2 q2.sz) er
  | bad => rw [c2] at h; exact h
theorem pe_mkE (G : GoodX g k N sc W X) {c f : Nat} {nm : Str} {p pos : Pos} {y : Expr} {ys : List Expr} {ms : Env → Sto → Rs (List D)} (M : MkOk g k c f) (hg : Gl X nm) (hm : X.mg nm = some (.ref (g.ca c)))
    (ha : PA X (y :: ys) (tMs g W ms)) (hp : allPlain (y :: ys) = true) (hdb : (nm == ("__debug__" : Str)) = false) :
    PE X (.Call (.Name nm p) (y :: ys) [] pos) (tM g W fun e s => (ms e s).bind fun xs s => mkC (callK g.G g.T k) c f xs s) := by
  unfold allPlain at hp
  rw [Bool.and_eq_true] at hp
  refine ⟨fun pins s σ H Q I h => ?_⟩
  obtain ⟨b, Z, S, e, s0, R, h⟩ := tM_iff.mp h
  have MK := M.mkk
  rw [← G.hK] at MK
  refine wpAny_Call_Name_kw (ld_glob I hg hm ?_ hdb)
  refine PySem.W.callWith_K (h₀ := X.base) I.ok.mod.kin MK.kp (thn (ha.run pos pins s σ H _ I (stepL (Q := fun vs H2 => ∀ x dx, H2 x = none → H2 dx = none → dx ≠ x → specOf g k f (.ref x :: vs) (upd (upd H2 dx (.own x)) x (.ins (g.ca c) dx [])) (fun v H3 => v = .non ∧ Q (.ref x) H3) (WE W σ)) R h fun d s' v Z' S' H' h R' _ dn => mk_spec G R'.sto dn h)) fun us s1 ⟨vs, H1, I1, r, q⟩ => ⟨I1.kIn, ?_⟩) (star1 hp.1) (noStar_any hp.2)
  exact run_mkS G M I1 r q
end
end Ms

set_option Elab.async false
set_option linter.all false
set_option autoImplicit false
set_option maxRecDepth 100000
set_option maxHeartbeats 1000000
namespace Ms
open PySem PySem.Spec L2 SX
open PyProof.Rows hiding St
section
variable {g : Glob} {k : Nat} {N : List Str} {sc : Scope} {W : WX} {X : Cx} {Z Z' : Hp} {S S' : List Addr} {σ : St} {H H' : Hp} {s s' : Sto} {e : Env} {b : Bs}
/-! ### a list of one's own, in its slot -/
theorem own_at (R : Rel g b Z S σ H e s) {i : Nat} {l : List D} (h : e.getO i = some l) : ∃ a vs, σ[i]? = some (some (.ref a)) ∧ H a = some (.lst vs) ∧ DenL g Z S vs l ∧ Z a = none ∧ a ∉ S ∧ b.H a = none := by
  unfold Env.getO at h
  cases c : e[i]? with
  | none => rw [c] at h; cases h
  | some t =>
    rw [c] at h
    cases t with
    | own l' =>
      injection h with h
      subst h
      have hl : i < σ.length := by rw [← R.env.el]; exact (List.getElem?_eq_some_iff.mp c).1
      obtain ⟨a, vs, e1, h1, r, z, n, f⟩ := R.env.ev i _ _ c (List.getElem?_eq_getElem hl)
      exact ⟨a, vs, by rw [List.getElem?_eq_getElem hl, e1], h1, r, z, n, f⟩
    | _ => cases h
theorem pe_lenO (G : GoodX g k N sc W X) {i : Nat} {x : Str} {p p2 pos : Pos} (hN : N[i]? = some x) (hv : Vis sc x) (hd : (x == ("__debug__" : Str)) = false) (hcd : (x == ("__classdict__" : Str)) = false) (hg : Gl X "len") (hm : X.mg "len" = none) :
    PE X (.Call (.Name "len" p) [.Name x p2] [] pos) (tM g W fun e s => (Rs.of (e.getO i) s).bind fun l s => .ok (.int l.length) s) := by
  refine PE.imp (pe_callB call_lenU hg hm (by decide +kernel) (pa_cons (pe_var (i := i) (by rw [G.hN]; exact hN) (by rw [G.hsc]; exact hv) hd hcd) pa_nil rfl) (by decide) (by decide) rfl rfl) ?_
  intro σ H Q h
  obtain ⟨b, Z, S, e, s, R, h⟩ := tM_iff.mp h
  cases c : e.getO i with
  | none => rw [c] at h; exact h.elim
  | some l =>
    rw [c] at h
    obtain ⟨a, vs, h1, h2, r, _⟩ := own_at R c
    refine ⟨_, h1, .inl ⟨a, vs, rfl, .inl (SqL.of h2), ?_⟩⟩
    rw [r.length]
    exact h _ Z S H R.sto .refl (.int _)
theorem pe_ixO (G : GoodX g k N sc W X) {i : Nat} {x : Str} {p pos : Pos} {y : Expr} {m : M} (hN : N[i]? = some x) (hv : Vis sc x) (hd : (x == ("__debug__" : Str)) = false) (hcd : (x == ("__classdict__" : Str)) = false) (ha : PE X y (tM g W m)) (hs : notSlice y = true) :
    PE X (.Subscript (.Name x p) y pos) (tM g W fun e s => (Rs.of (e.getO i) s).bind fun l s => (m e s).bind fun y s => Rs.of (index (.lst l) y) s) := by
  refine PE.imp (pe_ix ix_list (pe_var (i := i) (by rw [G.hN]; exact hN) (by rw [G.hsc]; exact hv) hd hcd) ha (plainIx_of hs)) ?_
  intro σ H Q h
  obtain ⟨b, Z, S, e, s, R, h⟩ := tM_iff.mp h
  cases c : e.getO i with
  | none => rw [c] at h; exact h.elim
  | some l =>
    rw [c] at h
    obtain ⟨a, vs, h1, h2, r, _, _⟩ := own_at R c
    refine ⟨_, h1, stepE R h fun d s1 v Z1 S1 H1 h R1 x1 dn => ?_⟩
    obtain ⟨a', vs', h3, h4, r', _⟩ := own_at R1 c
    rw [h1] at h3
    injection h3 with h3; injection h3 with h3; injection h3 with h3
    subst h3
    cases dn with
    | int j =>
      cases c2 : atIx l j with
      | none => simp only [index, c2] at h; exact h.elim
      | some d2 =>
        simp only [index, c2] at h
        obtain ⟨v2, h5, dn2⟩ := atI_of r' c2
        exact ⟨a, vs', j, v2, rfl, rfl, SqL.of h4, h5, h v2 Z1 S1 H1 R1.sto .refl dn2⟩
    | _ => exact h.elim
theorem mem_lst {neg : Bool} {a : Addr} {vs : List V} {l : List D} {x : V} {d : D} {r : Bool} {Q : VK} (hx : Den g Z S x d) (hH : H a = some (.lst vs)) (rl : DenL g Z S vs l) (hf : isIn d (.lst l) = some r) (hk : Q (.bl (r != neg)) H) : rIn X.K neg x (.ref a) H Q := by
  unfold isIn at hf
  dsimp only at hf
  cases f : d.flat with
  | false => rw [f] at hf; cases hf
  | true =>
    rw [f] at hf
    obtain ⟨h1, h2⟩ := mem_v hx f rl hf
    refine ⟨a, vs, rfl, .inl (SqL.of hH), flat_v hx f, h1, ?_⟩
    rw [h2]
    have : (if neg then !r else r) = (r != neg) := by cases neg <;> cases r <;> rfl
    rw [this]; exact hk
theorem inO_r (G : GoodX g k N sc W X) {i : Nat} {m : M} {neg : Bool} {Q : VK} (h : tM g W (fun e s => (m e s).bind fun x s => (Rs.of (e.getO i) s).bind fun l s => Rs.of ((isIn x (.lst l)).map fun b => .bl (b != neg)) s) σ H Q) : tOp (rIn X.K neg) (tM g W m) (tVar i) σ H Q := by
  obtain ⟨b, Z, S, e, s, R, h⟩ := tM_iff.mp h
  refine stepE R h fun d s1 v Z1 S1 H1 h R1 x1 dn => ?_
  cases c : e.getO i with
  | none => rw [c] at h; exact h.elim
  | some l =>
    rw [c] at h
    obtain ⟨a, vs, h1, h2, r, _⟩ := own_at R1 c
    refine ⟨_, h1, ?_⟩
    simp only [Rs.of_some, Rs.bind_ok] at h
    cases c2 : isIn d (.lst l) with
    | none => rw [c2] at h; exact h.elim
    | some t => rw [c2] at h; exact mem_lst dn h2 r c2 (h _ Z1 S1 H1 R1.sto .refl (.bl _))
theorem pe_inO (G : GoodX g k N sc W X) {i : Nat} {x : Str} {p pos : Pos} {y : Expr} {m : M} (hN : N[i]? = some x) (hv : Vis sc x) (hd : (x == ("__debug__" : Str)) = false) (hcd : (x == ("__classdict__" : Str)) = false) (ha : PE X y (tM g W m)) :
    PE X (.Compare y [.In] [.Name x p] pos) (tM g W fun e s => (m e s).bind fun x s => (Rs.of (e.getO i) s).bind fun l s => Rs.of ((isIn x (.lst l)).map fun b => .bl (b != false)) s) :=
  PE.imp (pe_cmpR op_in_seq ha (pe_var (i := i) (by rw [G.hN]; exact hN) (by rw [G.hsc]; exact hv) hd hcd) rfl) fun _ _ _ h => inO_r G h
theorem pe_ninO (G : GoodX g k N sc W X) {i : Nat} {x : Str} {p pos : Pos} {y : Expr} {m : M} (hN : N[i]? = some x) (hv : Vis sc x) (hd : (x == ("__debug__" : Str)) = false) (hcd : (x == ("__classdict__" : Str)) = false) (ha : PE X y (tM g W m)) :
    PE X (.Compare y [.NotIn] [.Name x p] pos) (tM g W fun e s => (m e s).bind fun x s => (Rs.of (e.getO i) s).bind fun l s => Rs.of ((isIn x (.lst l)).map fun b => .bl (b != true)) s) :=
  PE.imp (pe_cmpR op_notIn_seq ha (pe_var (i := i) (by rw [G.hN]; exact hN) (by rw [G.hsc]; exact hv) hd hcd) rfl) fun _ _ _ h => inO_r G h
theorem inO_bool {i : Nat} {m : M} {neg : Bool} (e : Env) (s : Sto) (d : D) (s' : Sto) (h : ((m e s).bind fun x s => (Rs.of (e.getO i) s).bind fun l s => Rs.of ((isIn x (.lst l)).map fun b => D.bl (b != neg)) s) = .ok d s') : ∃ c, d = .bl c := by
  cases c1 : m e s with
  | ok x s1 =>
    rw [c1] at h
    simp only [Rs.bind_ok] at h
    cases c2 : e.getO i with
    | none => rw [c2] at h; cases h
    | some l =>
      rw [c2] at h
      simp only [Rs.of_some, Rs.bind_ok] at h
      cases c3 : isIn x (.lst l) with
      | none => rw [c3] at h; cases h
      | some t => rw [c3] at h; simp only [Option.map_some, Rs.of_some, Rs.ok.injEq] at h; exact ⟨_, h.1.symm⟩
  | ex _ _ _ => rw [c1] at h; cases h
  | bad => rw [c1] at h; cases h
theorem pt_inO (G : GoodX g k N sc W X) {i : Nat} {x : Str} {p pos : Pos} {y : Expr} {m : M} (hN : N[i]? = some x) (hv : Vis sc x) (hd : (x == ("__debug__" : Str)) = false) (hcd : (x == ("__classdict__" : Str)) = false) (ha : PE X y (tM g W m)) :
    PT X (.Compare y [.In] [.Name x p] pos) (tMb g W (mB fun e s => (m e s).bind fun x s => (Rs.of (e.getO i) s).bind fun l s => Rs.of ((isIn x (.lst l)).map fun b => .bl (b != false)) s)) :=
  PT.imp (pt_cmpR op_in_seq ha (pe_var (i := i) (by rw [G.hN]; exact hN) (by rw [G.hsc]; exact hv) hd hcd) rfl) fun _ _ _ h => tTest_of (m := fun e s => (m e s).bind fun x s => (Rs.of (e.getO i) s).bind fun l s => Rs.of ((isIn x (.lst l)).map fun b => .bl (b != false)) s) (t := tOp (rIn X.K false) (tM g W m) (tVar i)) (fun _ _ _ h => inO_r G h) inO_bool h
theorem pt_ninO (G : GoodX g k N sc W X) {i : Nat} {x : Str} {p pos : Pos} {y : Expr} {m : M} (hN : N[i]? = some x) (hv : Vis sc x) (hd : (x == ("__debug__" : Str)) = false) (hcd : (x == ("__classdict__" : Str)) = false) (ha : PE X y (tM g W m)) :
    PT X (.Compare y [.NotIn] [.Name x p] pos) (tMb g W (mB fun e s => (m e s).bind fun x s => (Rs.of (e.getO i) s).bind fun l s => Rs.of ((isIn x (.lst l)).map fun b => .bl (b != true)) s)) :=
  PT.imp (pt_cmpR op_notIn_seq ha (pe_var (i := i) (by rw [G.hN]; exact hN) (by rw [G.hsc]; exact hv) hd hcd) rfl) fun _ _ _ h => tTest_of (m := fun e s => (m e s).bind fun x s => (Rs.of (e.getO i) s).bind fun l s => Rs.of ((isIn x (.lst l)).map fun b => .bl (b != true)) s) (t := tOp (rIn X.K true) (tM g W m) (tVar i)) (fun _ _ _ h => inO_r G h) inO_bool h
/-! ### a cell is written -/
def writable : HO → Prop
  | .lst _ => True
  | .ins _ _ _ => True
  | .dK _ => True
  | _ => False
theorem tabs_upd {T : List (Addr × Str)} {a : Addr} {o o2 : HO} (h : LamX.Tabs T H) (ha : H a = some o) (wr : writable o) : LamX.Tabs T (upd H a o2) := by
  intro p hp
  obtain ⟨ps, h1, h2, h3⟩ := h p hp
  have ne1 : p.1 ≠ a := by intro e; rw [e, ha] at h1; injection h1 with h1; subst h1; exact wr
  refine ⟨ps, by rw [upd_ne ne1]; exact h1, h2, fun pos cv hc => ?_⟩
  obtain ⟨c, e1, h4⟩ := h3 pos cv hc
  refine ⟨c, e1, ?_⟩
  have ne2 : c ≠ a := by intro e; rw [e, ha] at h4; injection h4 with h4; subst h4; exact wr
  rw [upd_ne ne2]; exact h4
theorem CellR.wr {a : Addr} {c : Cell} (h : CellR g Z S H a c) : ∃ o, H a = some o ∧ writable o := by
  cases c with
  | lst l => obtain ⟨vs, h, _⟩ := h; exact ⟨_, h, trivial⟩
  | ins c fs => obtain ⟨dx, vs, h, _⟩ := h; exact ⟨_, h, trivial⟩
theorem updCell (q : StoR g Z S H s) {n : Nat} {a : Addr} {c c2 : Cell} {o : HO} (hs : s[n]? = some c) (hS : S[n]? = some a) (hc : CellR g Z S (upd H a o) a c2) :
    StoR g Z S (upd H a o) (s.set n c2) ∧ Ext S Z H S Z (upd H a o) := by
  obtain ⟨o0, h0, w0⟩ := (q.st n c a hs hS).wr
  have ma : a ∈ S := List.mem_of_getElem? hS
  have za := q.sz a ma
  refine ⟨⟨fun p u h => ?_, by simp [q.sl], fun i t p h1 h2 => ?_, q.sd, q.sz, tabs_upd q.tb h0 w0, q.zt⟩, ⟨HLe.refl _, List.prefix_refl _, fun p u h hp _ => ?_, fun p ps h => ?_, fun p m => .inl m, fun p u h => .inl h⟩⟩
  · rw [upd_ne (by intro e; subst e; rw [za] at h; cases h)]; exact q.z _ _ h
  · by_cases hi : i = n
    · subst hi
      rw [hS] at h2
      injection h2 with h2
      subst h2
      rw [List.getElem?_set_self (List.getElem?_eq_some_iff.mp hs).1] at h1
      injection h1 with h1
      subst h1
      exact hc
    · rw [List.getElem?_set_ne (Ne.symm hi)] at h1
      have ne : p ≠ a := by
        intro e
        subst e
        obtain ⟨l1, e1⟩ := List.getElem?_eq_some_iff.mp h2
        obtain ⟨l2, e2⟩ := List.getElem?_eq_some_iff.mp hS
        exact hi ((List.getElem_inj q.sd).mp (e1.trans e2.symm))
      have := q.st i t p h1 h2
      revert this
      cases t with
      | lst l => rintro ⟨vs, h, r⟩; exact ⟨vs, by rw [upd_ne ne]; exact h, r⟩
      | ins c fs => rintro ⟨dx, vs, h, r⟩; exact ⟨dx, vs, by rw [upd_ne ne]; exact h, r⟩
  · rw [upd_ne (by intro e; subst e; exact hp ma)]; exact h
  · refine ⟨ps, ?_⟩
    rw [upd_ne (by intro e; subst e; rw [h0] at h; injection h with h; subst h; exact w0)]; exact h
theorem list_cell {n : Nat} {l : List D} (h : s.list n = some l) : s[n]? = some (.lst l) := by
  unfold Sto.list at h
  cases c : s[n]? with
  | none => rw [c] at h; cases h
  | some t =>
    rw [c] at h
    cases t with
    | lst l' => injection h with h; subst h; rfl
    | ins _ _ => cases h
theorem getLast_ix {α : Type} : ∀ {l : List α} {x : α}, l.getLast? = some x → l[l.length - 1]? = some x := by
  intro l x h
  rw [List.getLast?_eq_getElem?] at h
  exact h
/-- o.pop() -/
theorem pe_pop {o : Expr} {apos pos : Pos} {m : M} (ho : PE X o (tM g W m)) (hs : noSuper o = true) (hl : (apos.endLine == pos.line) = true) :
    PE X (.Call (.Attribute o "pop" apos) [] [] pos) (tM g W fun e s => (m e s).bind popS) := by
  refine PE.imp (pe_bm0 PySem.F.plainAttrs_list PySem.F.slot_list_pop PySem.F.type_list_pop mt_pop ho (base_of hs) hl) ?_
  intro σ H Q h
  obtain ⟨b, Z, S, e, s, R, h⟩ := tM_iff.mp h
  refine stepE R h fun d s' v Z' S' H' h R' _ dn => ?_
  cases dn with
  | @obj n a hn =>
    unfold popS at h
    dsimp only at h
    cases c : s'.list n with
    | none => rw [c] at h; exact h.elim
    | some l =>
      rw [c] at h
      cases c2 : l.getLast? with
      | none => simp only [c2] at h; exact h.elim
      | some d =>
        simp only [c2] at h
        have hc := list_cell c
        obtain ⟨vs, h1, r⟩ := R'.sto.st n _ a hc hn
        obtain ⟨v, h3, dn2⟩ := r.get (getLast_ix c2)
        refine ⟨.inl ⟨rfl, vs, SqL.of h1⟩, a, vs, v, rfl, rfl, h1, by rw [r.length]; exact h3, ?_⟩
        obtain ⟨q1, x1⟩ := updCell (c2 := .lst l.dropLast) (o := .lst vs.dropLast) R'.sto hc hn ⟨vs.dropLast, upd_same, r.dropLast⟩
        exact h v Z' S' _ q1 x1 dn2
  | _ => exact h.elim
end
end Ms

set_option Elab.async false
set_option linter.all false
set_option autoImplicit false
set_option maxRecDepth 100000
set_option maxHeartbeats 1000000
namespace Ms
open PySem PySem.Spec L2 SX
open PyProof.Rows hiding St
/-- an iterator that yields these -/
structure ItOk (g : Glob) (Z : Hp) (S : List Addr) (J : It) (ds : List D) : Prop where
  stop : ∀ Z1 S1 H s, HLe Z Z1 → StoR g Z1 S1 H s → J.stop ds.length H
  go : ∀ i Z1 S1 H s, i < ds.length → HLe Z Z1 → StoR g Z1 S1 H s → J.go i H
  yld : ∀ (i : Nat) (d : D) Z1 S1 H s x H', ds[i]? = some d → HLe Z Z1 → S <+: S1 → StoR g Z1 S1 H s → J.yld i H x H' → ∃ Z2, StoR g Z2 S1 H' s ∧ Ext S1 Z1 H S1 Z2 H' ∧ Den g Z2 S1 x d
def postI (g : Glob) (W : WX) (Z : Hp) (S : List Addr) (σ : St) (H : Hp) (R : It → Hp → Prop) : Rs (List D) → Prop
  | .ok ds s' => ∀ J Z' S' H', StoR g Z' S' H' s' → Ext S Z H S' Z' H' → ItOk g Z' S' J ds → R J H'
  | .ex c r s' => outE g W Z S σ H c r s'
  | .bad => False
def tI (g : Glob) (W : WX) (m : Env → Sto → Rs (List D)) : TI := fun σ H R => ∃ b Z S e s, Rel g b Z S σ H e s ∧ postI g W Z S σ H R (m e s)
section
variable {g : Glob} {k : Nat} {N : List Str} {sc : Scope} {W : WX} {X : Cx} {Z Z' : Hp} {S S' : List Addr} {σ : St} {H H' : Hp} {s s' : Sto} {e : Env} {b : Bs}
theorem PI.imp {tg x : Expr} {t t' : TI} (h : PI X tg x t) (i : ∀ σ H R, t' σ H R → t σ H R) : PI X tg x t' := ⟨fun pins s σ H R I r => h.run pins s σ H R I (i _ _ _ r)⟩
theorem postI.back {Z1 : Hp} {S1 : List Addr} {H1 : Hp} {R : It → Hp → Prop} (x : Ext S Z H S1 Z1 H1) : ∀ {r : Rs (List D)}, postI g W Z S σ H R r → postI g W Z1 S1 σ H1 R r
  | .ok _ _, h => fun J Z' S' H' q y io => h J Z' S' H' q (x.trans y q.sz) io
  | .ex _ _ _, h => outE.back x h
  | .bad, h => h
theorem stepEI {m1 : M} {kk : D → Sto → Rs (List D)} {R0 : It → Hp → Prop} {Q : VK} (R : Rel g b Z S σ H e s) (hp : postI g W Z S σ H R0 ((m1 e s).bind kk))
    (hk : ∀ d s' v Z' S' H', postI g W Z' S' σ H' R0 (kk d s') → Rel g b Z' S' σ H' e s' → Ext S Z H S' Z' H' → Den g Z' S' v d → Q v H') : tM g W m1 σ H Q :=
  tM_bind (post := postI g W Z S σ H R0) R hp (fun h => h) (fun _ _ _ h => h) fun d s' v Z' S' H' h R' x dn => hk d s' v Z' S' H' (h.back x) R' x dn
end
section
variable {g : Glob} {k : Nat} {N : List Str} {sc : Scope} {W : WX} {X : Cx} {Z Z' : Hp} {S S' : List Addr} {σ : St} {H H' : Hp} {s s' : Sto} {e : Env} {b : Bs}
theorem den_later {Z1 : Hp} {S1 : List Addr} (hz : HLe Z Z1) (hs : S <+: S1) {v : V} {d : D} (h : Den g Z S v d) : Den g Z1 S1 v d := h.mono hz hs
/-- over a frozen list -/
theorem it_lst (G : GoodX g k N sc W X) {a : Addr} {vs : List V} {ds : List D} (h : Z a = some (.lst vs)) (r : DenL g Z S vs ds) : ItOk g Z S (Itl X.K a) ds where
  stop := fun Z1 S1 H s hz q => ⟨vs, SqL.of (q.z _ _ (hz _ _ h)), by rw [r.length]; exact Nat.le_refl _⟩
  go := fun i Z1 S1 H s hi hz q => by
    have hl : i < vs.length := by rw [r.length]; exact hi
    exact ⟨vs, vs[i], SqL.of (q.z _ _ (hz _ _ h)), List.getElem?_eq_getElem hl⟩
  yld := fun i d Z1 S1 H s x H' hd hz hs q y => by
    obtain ⟨rfl, hx⟩ := y
    have := hx vs (SqL.of (q.z _ _ (hz _ _ h)))
    obtain ⟨v, h1, dn⟩ := r.get hd
    rw [this] at h1
    injection h1 with h1
    subst h1
    exact ⟨Z1, q, .refl, dn.mono hz hs⟩
theorem it_tup (G : GoodX g k N sc W X) {a : Addr} {vs : List V} {ds : List D} (h : SqT g.K Z a vs) (r : DenL g Z S vs ds) : ItOk g Z S (Itt X.K a) ds where
  stop := fun Z1 S1 H s hz q => ⟨vs, SqT.up (SqT.le h hz) G q, by rw [r.length]; exact Nat.le_refl _⟩
  go := fun i Z1 S1 H s hi hz q => by
    have hl : i < vs.length := by rw [r.length]; exact hi
    exact ⟨vs, vs[i], SqT.up (SqT.le h hz) G q, List.getElem?_eq_getElem hl⟩
  yld := fun i d Z1 S1 H s x H' hd hz hs q y => by
    obtain ⟨rfl, hx⟩ := y
    have := hx vs (SqT.up (SqT.le h hz) G q)
    obtain ⟨v, h1, dn⟩ := r.get hd
    rw [this] at h1
    injection h1 with h1
    subst h1
    exact ⟨Z1, q, .refl, dn.mono hz hs⟩
theorem it_rng {lo : Int} {n : Nat} : ItOk g Z S (Itr lo n) (rngL lo n) where
  stop := fun Z1 S1 H s hz q => by show n ≤ (rngL lo n).length; simp [rngL]
  go := fun i Z1 S1 H s hi hz q => by show i < n; simpa [rngL] using hi
  yld := fun i d Z1 S1 H s x H' hd hz hs q y => by
    obtain ⟨rfl, rfl⟩ := y
    refine ⟨Z1, q, .refl, ?_⟩
    have hi : i < n := by have := (List.getElem?_eq_some_iff.mp hd).1; simpa [rngL] using this
    have : d = .int (lo + (i : Int)) := by
      simp only [rngL, List.getElem?_map, List.getElem?_range hi, Option.map_some, Option.some.injEq] at hd
      exact hd.symm
    subst this
    exact .int _
theorem it_str {t : List Nat} (ht : okS t) : ItOk g Z S (Its ⟨t.toArray⟩) (t.map fun c => .str [c]) where
  stop := fun Z1 S1 H s hz q => by show (t.toArray).size ≤ _; simp
  go := fun i Z1 S1 H s hi hz q => by show i < (t.toArray).size; simpa using hi
  yld := fun i d Z1 S1 H s x H' hd hz hs q y => by
    obtain ⟨rfl, c, hc, rfl⟩ := y
    refine ⟨Z1, q, .refl, ?_⟩
    have hc' : t[i]? = some c := by simpa using hc
    rw [List.getElem?_map, hc'] at hd
    simp only [Option.map_some, Option.some.injEq] at hd
    subst hd
    exact .str [c] (okS_mem ht (List.mem_of_getElem? hc'))
theorem lay_pair {x y : V} {d1 d2 : D} {T : Addr} (q : StoR g Z S H s) (n : H T = none) (h1 : Den g Z S x d1) (h2 : Den g Z S y d2) : ∃ Z2, StoR g Z2 S (upd H T (.tup [x, y])) s ∧ Ext S Z H S Z2 (upd H T (.tup [x, y])) ∧ Den g Z2 S (.ref T) (.tup [d1, d2]) := by
  obtain ⟨q1, x1⟩ := lay q n (notTbl_tup [x, y])
  exact ⟨_, q1, x1, .tup (.inl (Rd.of upd_same)) (.cons (x1.den h1) (.cons (x1.den h2) .nil))⟩
theorem zipL_get : ∀ {as bs : List D} {i : Nat} {d : D}, (zipL as bs)[i]? = some d → ∃ x y, as[i]? = some x ∧ bs[i]? = some y ∧ d = .tup [x, y]
  | [], _, i, d, h => by simp [zipL] at h
  | _ :: _, [], i, d, h => by simp [zipL] at h
  | a :: as, b :: bs, 0, d, h => by simp [zipL] at h; exact ⟨a, b, rfl, rfl, h.symm⟩
  | a :: as, b :: bs, i + 1, d, h => by
    simp only [zipL, List.getElem?_cons_succ] at h ⊢
    exact zipL_get h
theorem zipL_len : ∀ as bs : List D, (zipL as bs).length = min as.length bs.length
  | [], _ => by simp [zipL]
  | _ :: _, [] => by simp [zipL]
  | a :: as, b :: bs => by simp only [zipL, List.length_cons, zipL_len as bs]; omega
theorem it_zipL (G : GoodX g k N sc W X) {a1 a2 : Addr} {vs ws : List V} {ds es : List D} (h1 : Z a1 = some (.lst vs)) (r1 : DenL g Z S vs ds) (h2 : Z a2 = some (.lst ws)) (r2 : DenL g Z S ws es) : ItOk g Z S (Itz X.K a1 a2) (zipL ds es) where
  stop := fun Z1 S1 H s hz q => by
    refine ⟨vs, ws, SqL.of (q.z _ _ (hz _ _ h1)), SqL.of (q.z _ _ (hz _ _ h2)), ?_⟩
    rw [zipL_len, r1.length, r2.length]; omega
  go := fun i Z1 S1 H s hi hz q => by
    rw [zipL_len] at hi
    have l1 : i < vs.length := by rw [r1.length]; omega
    have l2 : i < ws.length := by rw [r2.length]; omega
    exact ⟨vs, ws, vs[i], ws[i], SqL.of (q.z _ _ (hz _ _ h1)), SqL.of (q.z _ _ (hz _ _ h2)), List.getElem?_eq_getElem l1, List.getElem?_eq_getElem l2⟩
  yld := fun i d Z1 S1 H s x H' hd hz hs q y => by
    obtain ⟨T, x1, y1, rfl, n, rfl, hx, hy⟩ := y
    have e1 := hx vs (SqL.of (q.z _ _ (hz _ _ h1)))
    have e2 := hy ws (SqL.of (q.z _ _ (hz _ _ h2)))
    obtain ⟨dx, dy, g1, g2, rfl⟩ := zipL_get hd
    obtain ⟨v1, f1, dn1⟩ := r1.get g1
    obtain ⟨v2, f2, dn2⟩ := r2.get g2
    rw [e1] at f1; injection f1 with f1; subst f1
    rw [e2] at f2; injection f2 with f2; subst f2
    exact lay_pair q n (dn1.mono hz hs) (dn2.mono hz hs)
theorem it_zipT (G : GoodX g k N sc W X) {a1 a2 : Addr} {vs ws : List V} {ds es : List D} (h1 : SqT g.K Z a1 vs) (r1 : DenL g Z S vs ds) (h2 : SqT g.K Z a2 ws) (r2 : DenL g Z S ws es) : ItOk g Z S (RZ.ItzT X.K a1 a2) (zipL ds es) where
  stop := fun Z1 S1 H s hz q => by
    refine ⟨vs, ws, SqT.up (SqT.le h1 hz) G q, SqT.up (SqT.le h2 hz) G q, ?_⟩
    rw [zipL_len, r1.length, r2.length]; omega
  go := fun i Z1 S1 H s hi hz q => by
    rw [zipL_len] at hi
    have l1 : i < vs.length := by rw [r1.length]; omega
    have l2 : i < ws.length := by rw [r2.length]; omega
    exact ⟨vs, ws, vs[i], ws[i], SqT.up (SqT.le h1 hz) G q, SqT.up (SqT.le h2 hz) G q, List.getElem?_eq_getElem l1, List.getElem?_eq_getElem l2⟩
  yld := fun i d Z1 S1 H s x H' hd hz hs q y => by
    obtain ⟨T, x1, y1, rfl, n, rfl, hx, hy⟩ := y
    have e1 := hx vs (SqT.up (SqT.le h1 hz) G q)
    have e2 := hy ws (SqT.up (SqT.le h2 hz) G q)
    obtain ⟨dx, dy, g1, g2, rfl⟩ := zipL_get hd
    obtain ⟨v1, f1, dn1⟩ := r1.get g1
    obtain ⟨v2, f2, dn2⟩ := r2.get g2
    rw [e1] at f1; injection f1 with f1; subst f1
    rw [e2] at f2; injection f2 with f2; subst f2
    exact lay_pair q n (dn1.mono hz hs) (dn2.mono hz hs)
theorem it_rev (G : GoodX g k N sc W X) {a : Addr} {vs : List V} {ds : List D} (h : Z a = some (.lst vs)) (r : DenL g Z S vs ds) : ItOk g Z S (Itv X.K a vs.length) ds.reverse where
  stop := fun Z1 S1 H s hz q => by show vs.length ≤ _; rw [List.length_reverse, r.length]; exact Nat.le_refl _
  go := fun i Z1 S1 H s hi hz q => by
    rw [List.length_reverse, ← r.length] at hi
    have hl : vs.length - 1 - i < vs.length := by omega
    exact ⟨hi, vs, vs[vs.length - 1 - i], SqL.of (q.z _ _ (hz _ _ h)), List.getElem?_eq_getElem hl⟩
  yld := fun i d Z1 S1 H s x H' hd hz hs q y => by
    obtain ⟨rfl, hx⟩ := y
    have e1 := hx vs (SqL.of (q.z _ _ (hz _ _ h)))
    have hi : i < ds.length := by have := (List.getElem?_eq_some_iff.mp hd).1; rwa [List.length_reverse] at this
    rw [List.getElem?_reverse hi] at hd
    obtain ⟨v, h1, dn⟩ := r.get hd
    rw [r.length] at e1
    rw [e1] at h1
    injection h1 with h1
    subst h1
    exact ⟨Z1, q, .refl, dn.mono hz hs⟩
/-! ### the sources -/
/-- a list, a tuple or a text, whichever it is -/
def iAny (K : PySem.W.Frag) (tl : TE) : TI := fun σ H R => tl σ H fun x H1 =>
  (∃ a, x = .ref a ∧ (∃ xs, SqL K H1 a xs) ∧ R (Itl K a) H1) ∨ (∃ a, x = .ref a ∧ (∃ xs, SqT K H1 a xs) ∧ R (Itt K a) H1) ∨ ∃ z, x = .str z ∧ R (Its z) H1
/-- one new record walks -/
theorem pie_new {pins : List (Addr × Obj)} {σ : St} {H : Hp} {s : Shared} {tg : Expr} {R : L2.It → Hp → Prop} {J : L2.It} {o : Obj} {tn : Nat → Heap → Prop} (I : L2.Inv X pins σ H s)
    (T : Turn X.prog X.w X.K tg J [s.heap.objs.size] s.heap.objs.size tn) (h0 : tn 0 (s.heap.push o)) (q : R J H) :
    PIE X pins σ tg R (.ref s.heap.objs.size) { s with heap := s.heap.push o } := by
  refine ⟨_, _, tn, J, H, rfl, I.kept (t' := s.toks) fun b u e => Heap.get?_push_of_some _ e, T, h0, fun b hb => ?_, q⟩
  rw [List.mem_singleton] at hb
  subst hb
  exact I.fpOk (Nat.le_refl _) (I.hok.fresh (Nat.le_refl _))
theorem pi_any {tg l : Expr} {tl : TE} (hl : PE X l tl) : PI X tg l (iAny X.K tl) := by
  refine ⟨fun pins s σ H R I h => thn (hl.run pins s σ H _ I h) ?_⟩
  rintro v s1 ⟨x, H1, I1, rx, (⟨a, rfl, ⟨xs, hq⟩, q⟩ | ⟨a, rfl, ⟨xs, hq⟩, q⟩ | ⟨z, rfl, q⟩)⟩
  · obtain rfl : v = Value.ref a := rx
    obtain ⟨its, rv, pl, _⟩ := I1.list hq
    exact wpAny_pyIter_list pl.isList (pie_new I1 (turn_list a _) ⟨_, Heap.get?_push_size _ rfl, rfl, rfl⟩ q)
  · obtain rfl : v = Value.ref a := rx
    obtain ⟨its, rv, pl, _⟩ := I1.tuple hq
    exact wpAny_pyIter_tuple pl (pie_new I1 (turn_tuple a _) ⟨_, Heap.get?_push_size _ rfl, rfl, rfl⟩ q)
  · obtain ⟨t, rfl⟩ := rx
    cases ha : z.cps.all (· < 128)
    · exact wpAny_pyIter_wide ha (pie_new I1 (turn_str _ z t "str_iterator" (.inr rfl)) ⟨_, Heap.get?_push_size _ rfl, rfl, rfl⟩ q)
    · exact wpAny_pyIter_ascii ha (pie_new I1 (turn_str _ z t "str_ascii_iterator" (.inl rfl)) ⟨_, Heap.get?_push_size _ rfl, rfl, rfl⟩ q)
theorem pi_seqE (G : GoodX g k N sc W X) {tg x : Expr} {m : M} (ha : PE X x (tM g W m)) : PI X tg x (tI g W fun e s => (m e s).bind fun x s => Rs.of (seqIt x) s) := by
  refine PI.imp (pi_any ha) ?_
  rintro σ H R ⟨b, Z, S, e, s, R0, h⟩
  refine stepEI R0 h fun d s' v Z' S' H' h R' _ dn => ?_
  cases dn with
  | @lst a vs ds hz r => exact .inl ⟨a, rfl, ⟨vs, SqL.of (R'.sto.z _ _ hz)⟩, h _ Z' S' H' R'.sto .refl (it_lst G hz r)⟩
  | @tup a vs ds hz r => exact .inr (.inl ⟨a, rfl, ⟨vs, SqT.up hz G R'.sto⟩, h _ Z' S' H' R'.sto .refl (it_tup G hz r)⟩)
  | str t ht =>
    simp only [seqIt] at h
    cases c : decide (t.length ≤ lim) with
    | false => rw [c] at h; exact h.elim
    | true => rw [c] at h; exact .inr (.inr ⟨_, rfl, h _ Z' S' H' R'.sto .refl (it_str ht)⟩)
  | _ => exact h.elim
theorem midInt_ok {i : Int} (h : midInt i = true) : -(2 ^ 62) ≤ i ∧ i < 2 ^ 62 := by
  simp only [midInt, decide_eq_true_eq] at h
  exact ⟨by omega, by omega⟩
theorem pi_rng1E {tg x : Expr} {p pos : Pos} {m : M} (hg : Gl X "range") (hm : X.mg "range" = none) (ha : PE X x (tM g W m)) (hs : notStar x = true) :
    PI X tg (.Call (.Name "range" p) [x] [] pos) (tI g W fun e s => (m e s).bind fun x s => Rs.of (rng1 x) s) := by
  refine PI.imp (pi_range1 hg hm (pa_cons ha pa_nil (star1 hs)) (star1 hs)) ?_
  rintro σ H R ⟨b, Z, S, e, s, R0, h⟩
  refine stepEI R0 h fun d s' v Z' S' H' h R' _ dn => ?_
  cases dn with
  | int i =>
    simp only [rng1] at h
    cases c : midInt i with
    | false => rw [c] at h; exact h.elim
    | true =>
      rw [c] at h
      obtain ⟨h1, h2⟩ := midInt_ok c
      exact ⟨i, rfl, h1, h2, h _ Z' S' H' R'.sto .refl it_rng⟩
  | _ => exact h.elim
theorem pi_rng2E {tg x y : Expr} {p pos : Pos} {m1 m2 : M} (hg : Gl X "range") (hm : X.mg "range" = none) (ha : PE X x (tM g W m1)) (hb : PE X y (tM g W m2)) (hs : notStar x = true) (hs2 : notStar y = true) :
    PI X tg (.Call (.Name "range" p) [x, y] [] pos) (tI g W fun e s => (m1 e s).bind fun x s => (m2 e s).bind fun y s => Rs.of (rng2 x y) s) := by
  refine PI.imp (pi_range2 hg hm (pa_cons ha (pa_cons hb pa_nil (star1 hs2)) (star1 hs)) (by rw [star1 hs, star1 hs2]; rfl) (by rw [star1 hs2]; rfl)) ?_
  rintro σ H R ⟨b, Z, S, e, s, R0, h⟩
  refine stepEI R0 h fun d s' v Z' S' H' h R' _ dn => ?_
  refine stepEI R' h fun d2 s2 v2 Z2 S2 H2 h R2 x2 dn2 => ?_
  cases dn with
  | int i =>
    cases dn2 with
    | int j =>
      simp only [rng2] at h
      cases c : midInt i && midInt j with
      | false => rw [c] at h; exact h.elim
      | true =>
        rw [c] at h
        rw [Bool.and_eq_true] at c
        obtain ⟨h1, h2⟩ := midInt_ok c.1
        obtain ⟨h3, h4⟩ := midInt_ok c.2
        exact ⟨i, j, rfl, ⟨h1, h2, h3, h4⟩, h _ Z2 S2 H2 R2.sto .refl it_rng⟩
    | _ => exact h.elim
  | _ => exact h.elim
theorem pi_zipE (G : GoodX g k N sc W X) {x y : Expr} {elts : List Expr} {kk : Nat} {tpos p pos : Pos} {m1 m2 : M} (hg : Gl X "zip") (hm : X.mg "zip" = none) (ha : PE X x (tM g W m1)) (hb : PE X y (tM g W m2)) (hs : notStar x = true) (hs2 : notStar y = true) :
    PI X (.Tuple elts kk tpos) (.Call (.Name "zip" p) [x, y] [] pos) (tI g W fun e s => (m1 e s).bind fun x s => (m2 e s).bind fun y s => Rs.of (zipIt x y) s) := by
  refine PI.imp (RZ.pi_zipA hg hm (pa_cons ha (pa_cons hb pa_nil (star1 hs2)) (star1 hs)) (star1 hs) (by rw [star1 hs2]; rfl)) ?_
  rintro σ H R ⟨b, Z, S, e, s, R0, h⟩
  refine stepEI R0 h fun d s' v Z' S' H' h R' _ dn => ?_
  refine stepEI R' h fun d2 s2 v2 Z2 S2 H2 h R2 x2 dn2 => ?_
  have dn := x2.den dn
  cases dn with
  | @lst a1 vs ds h1 r1 =>
    cases dn2 with
    | @lst a2 ws es h2 r2 => exact ⟨a1, a2, vs, ws, rfl, .inl ⟨SqL.of (R2.sto.z _ _ h1), SqL.of (R2.sto.z _ _ h2), h _ Z2 S2 H2 R2.sto .refl (it_zipL G h1 r1 h2 r2)⟩⟩
    | _ => exact h.elim
  | @tup a1 vs ds h1 r1 =>
    cases dn2 with
    | @tup a2 ws es h2 r2 => exact ⟨a1, a2, vs, ws, rfl, .inr ⟨SqT.up h1 G R2.sto, SqT.up h2 G R2.sto, h _ Z2 S2 H2 R2.sto .refl (it_zipT G h1 r1 h2 r2)⟩⟩
    | _ => exact h.elim
  | _ => exact h.elim
theorem pi_revE (G : GoodX g k N sc W X) {tg x : Expr} {p pos : Pos} {m : M} (hg : Gl X "reversed") (hm : X.mg "reversed" = none) (ha : PE X x (tM g W m)) (hs : notStar x = true) :
    PI X tg (.Call (.Name "reversed" p) [x] [] pos) (tI g W fun e s => (m e s).bind fun x s => Rs.of (revIt x) s) := by
  refine PI.imp (RT.pi_revA hg hm ha (star1 hs)) ?_
  rintro σ H R ⟨b, Z, S, e, s, R0, h⟩
  refine stepEI R0 h fun d s' v Z' S' H' h R' _ dn => ?_
  cases dn with
  | @lst a vs ds hz r => exact ⟨a, vs, rfl, .inl ⟨SqL.of (R'.sto.z _ _ hz), h _ Z' S' H' R'.sto .refl (it_rev G hz r)⟩⟩
  | _ => exact h.elim
/-! ### targets -/
def Tg.ix : Tg → List Nat
  | .name i => [i]
  | .tup is => is
/-- a slot takes a value -/
theorem Rel.setv (R : Rel g b Z S σ H e s) {i : Nat} {v : V} {d : D} (dn : Den g Z S v d) : Rel g b Z S (σ.set i (some v)) H (e.set i (.val d)) s := by
  refine ⟨R.sto, ⟨by simp [R.env.el], fun j t w h1 h2 => ?_, fun j j2 t t2 w h1 h2 o1 o2 h3 h4 => ?_⟩, R.ext⟩
  · by_cases c : j = i
    · subst c
      have hl : j < e.length := by have := (List.getElem?_eq_some_iff.mp h1).1; simpa using this
      rw [List.getElem?_set_self hl] at h1
      rw [List.getElem?_set_self (by rw [← R.env.el]; exact hl)] at h2
      injection h1 with h1
      injection h2 with h2
      subst h1 h2
      exact ⟨v, rfl, dn⟩
    · rw [List.getElem?_set_ne (Ne.symm c)] at h1 h2
      exact R.env.ev j t w h1 h2
  · have n1 : j ≠ i := by
      intro c
      subst c
      have hl : j < e.length := by have := (List.getElem?_eq_some_iff.mp h1).1; simpa using this
      rw [List.getElem?_set_self hl] at h1
      injection h1 with h1
      subst h1
      cases o1
    have n2 : j2 ≠ i := by
      intro c
      subst c
      have hl : j2 < e.length := by have := (List.getElem?_eq_some_iff.mp h2).1; simpa using this
      rw [List.getElem?_set_self hl] at h2
      injection h2 with h2
      subst h2
      cases o2
    rw [List.getElem?_set_ne (Ne.symm n1)] at h1 h3
    rw [List.getElem?_set_ne (Ne.symm n2)] at h2 h4
    exact R.env.od j j2 t t2 w h1 h2 o1 o2 h3 h4
theorem wipe_in : ∀ {vs : List Nat} {σ : St} {i : Nat} {x : Option V}, i ∈ vs → wipe (σ.set i x) vs = wipe σ vs
  | [], _, _, _, h => nomatch h
  | v :: vs, σ, i, x, h => by
    simp only [wipe]
    by_cases c : i ∈ vs
    · rw [wipe_in c]
    · have e : i = v := (List.mem_cons.mp h).resolve_right c
      subst e
      have : ∀ (vs : List Nat) (σ : St), i ∉ vs → (wipe (σ.set i x) vs).set i none = (wipe σ vs).set i none := by
        intro vs
        induction vs with
        | nil => intro σ _; simp [wipe, List.set_set]
        | cons w ws ih =>
          intro σ hn
          simp only [List.mem_cons, not_or] at hn
          simp only [wipe]
          rw [List.set_comm _ _ (Ne.symm hn.1), ih σ hn.2, List.set_comm _ _ hn.1]
      exact this vs σ c
/-- the reading of a target -/
def tT (g : Glob) (tg : Tg) : TG := fun v σ H Q => ∃ b Z S e s d e', Rel g b Z S σ H e s ∧ Den g Z S v d ∧ bindTg tg d e = some e' ∧
  ∀ σ', Rel g b Z S σ' H e' s → (∀ vs, (∀ i ∈ tg.ix, i ∈ vs) → wipe σ' vs = wipe σ vs) → Q σ' H
theorem PG.imp {tg : Expr} {t t' : TG} (h : PG X tg t) (i : ∀ v σ H Q, t' v σ H Q → t v σ H Q) : PG X tg t' := ⟨fun pins s σ H v u Q I r q => h.run pins s σ H v u Q I r (i _ _ _ _ q)⟩
/-- several names -/
def nameIs (N : List Str) (sc : Scope) (co : Bool) (i : Nat) (x : Str) : Bool := decide (N[i]? = some x) && (decide (sc.names.lookup x = some .local) || (co && decide (sc.names.lookup x = some .cell)))
def namesAre (N : List Str) (sc : Scope) (co : Bool) : List Nat → List Expr → Bool
  | [], [] => true
  | i :: is, .Name x _ :: es => nameIs N sc co i x && namesAre N sc co is es
  | _, _ => false
theorem nameIs_of {X : Cx} {N : List Str} {sc : Scope} {co : Bool} {i : Nat} {x : Str} (hsc : X.env.scope = sc) (hf : co = true → ∀ x, X.fn x = true) (h : nameIs N sc co i x = true) : N[i]? = some x ∧ Loc sc x ∧ (X.fn x = true ∨ X.env.scope.names.lookup x = some .local) := by
  simp only [nameIs, Bool.and_eq_true, Bool.or_eq_true, decide_eq_true_eq] at h
  obtain ⟨h1, h2⟩ := h
  rcases h2 with h2 | ⟨h2, h3⟩
  · exact ⟨h1, .inl h2, .inr (by rw [hsc]; exact h2)⟩
  · exact ⟨h1, .inr h3, .inl (hf h2 x)⟩
def gSets (is : List Nat) : TGs := fun vs σ H Q => vs.length = is.length ∧ Q ((is.zip vs).foldl (fun σ p => σ.set p.1 (some p.2)) σ) H
theorem pgs_names {co : Bool} (hX : X.N = N) (nd : N.Nodup) (hsc : X.env.scope = sc) (hf : co = true → ∀ x, X.fn x = true) : ∀ {is : List Nat} {es : List Expr}, namesAre N sc co is es = true → PGs X es (gSets is)
  | [], [], _ => ⟨fun pins s σ H vs us Q I r h => by
      obtain ⟨h1, h2⟩ := h
      cases r with
      | nil => exact (pgs_nil (X := X)).run pins s σ H [] [] Q I .nil ⟨rfl, h2⟩
      | cons _ _ => simp at h1⟩
  | i :: is, .Name x p :: es, h => by
    simp only [namesAre, Bool.and_eq_true] at h
    obtain ⟨h1, h2, h3⟩ := nameIs_of hsc hf h.1
    have hx : Loc X.env.scope x := by rw [hsc]; exact h2
    have hh := pgs_cons (e := .Name x p) (pg_name (X := X) (i := i) (by rw [hX]; exact nd) (by rw [hX]; exact h1) hx h3) (pgs_names hX nd hsc hf h.2)
    refine ⟨fun pins s σ H vs us Q I r q => hh.run pins s σ H vs us Q I r ?_⟩
    obtain ⟨q1, q2⟩ := q
    cases vs with
    | nil => simp at q1
    | cons v vs => exact ⟨v, vs, rfl, by simpa using q1, q2⟩
theorem setAll_rel : ∀ {is : List Nat} {vs : List V} {ds : List D} {e e' : Env} {σ : St}, DenL g Z S vs ds → setAll is ds e = some e' → Rel g b Z S σ H e s → vs.length = is.length ∧ Rel g b Z S ((is.zip vs).foldl (fun σ p => σ.set p.1 (some p.2)) σ) H e' s
  | [], _, _, e, e', σ, .nil, h, R => by simp only [setAll, Option.some.injEq] at h; subst h; exact ⟨rfl, R⟩
  | [], _, _, e, e', σ, .cons _ _, h, R => by simp [setAll] at h
  | i :: is, _, _, e, e', σ, .nil, h, R => by simp [setAll] at h
  | i :: is, _, _, e, e', σ, .cons d r, h, R => by
    simp only [setAll] at h
    obtain ⟨h1, h2⟩ := setAll_rel r h (R.setv (i := i) d)
    exact ⟨by simp [h1], h2⟩
theorem wipe_sets {vs : List Nat} : ∀ {is : List Nat} {ws : List V} {σ : St}, (∀ i ∈ is, i ∈ vs) → wipe ((is.zip ws).foldl (fun σ p => σ.set p.1 (some p.2)) σ) vs = wipe σ vs
  | [], _, σ, _ => by simp
  | i :: is, [], σ, _ => by simp
  | i :: is, w :: ws, σ, h => by
    simp only [List.zip_cons_cons, List.foldl_cons]
    rw [wipe_sets (fun j hj => h j (List.mem_cons_of_mem _ hj)), wipe_in (h i List.mem_cons_self)]
theorem pg_nameE (hX : X.N = N) (nd : N.Nodup) (hsc : X.env.scope = sc) {i : Nat} {x : Str} {p : Pos} (hi : N[i]? = some x) (hx : Loc sc x) (hf : X.fn x = true ∨ X.env.scope.names.lookup x = some .local) : PG X (.Name x p) (tT g (.name i)) := by
  refine PG.imp (pg_name (i := i) (by rw [hX]; exact nd) (by rw [hX]; exact hi) (by rw [hsc]; exact hx) hf) ?_
  rintro v σ H Q ⟨b, Z, S, e, s, d, e', R, dn, h1, h2⟩
  simp only [bindTg, Option.some.injEq] at h1
  subst h1
  exact h2 _ (R.setv dn) fun vs hv => wipe_in (hv i (List.mem_singleton.mpr rfl))
theorem names_plain {co : Bool} {env : PySem.Env} : ∀ {is : List Nat} {es : List Expr}, namesAre N sc co is es = true → (assignEach es env).findIdx? (·.1) = none ∧ (assignEach es env).length = is.length
  | [], [], _ => ⟨rfl, rfl⟩
  | i :: is, .Name x p :: es, h => by
    simp only [namesAre, Bool.and_eq_true] at h
    obtain ⟨h1, h2⟩ := names_plain (env := env) h.2
    have e : assignEach (.Name x p :: es) env = (false, assign (.Name x p) env) :: assignEach es env := rfl
    rw [e]
    refine ⟨?_, by simp [h2]⟩
    rw [List.findIdx?_cons, h1]; rfl
theorem pg_tupE {co : Bool} (hc : X.calm = true) (hK : X.K = g.K) (hX : X.N = N) (nd : N.Nodup) (hsc : X.env.scope = sc) (hf : co = true → ∀ x, X.fn x = true) {is : List Nat} {es : List Expr} {kk : Nat} {p : Pos} (h : namesAre N sc co is es = true) :
    PG X (.Tuple es kk p) (tT g (.tup is)) := by
  refine PG.imp (pg_tup (n := is.length) hc (pgs_names hX nd hsc hf h) (names_plain h).2 (names_plain h).1) ?_
  rintro v σ H Q ⟨b, Z, S, e, s, d, e', R, dn, h1, h2⟩
  cases d with
  | tup ds =>
    cases dn with
    | @tup a xs _ hz r =>
      simp only [bindTg] at h1
      obtain ⟨l, R'⟩ := setAll_rel r h1 R
      exact ⟨a, xs, rfl, by rw [hK]; exact SqT.le hz R.sto.z, l, l, h2 _ R' fun vs hv => wipe_sets hv⟩
  | _ => simp [bindTg] at h1
end
end Ms

set_option Elab.async false
set_option linter.all false
set_option autoImplicit false
set_option maxRecDepth 100000
set_option maxHeartbeats 2000000
namespace Ms
open PySem PySem.Spec L2 SX
open PyProof.Rows hiding St
/-- no exception is let out of a comprehension -/
def W0 : WX := fun _ _ _ _ => False
section
variable {g : Glob} {k : Nat} {N : List Str} {sc : Scope} {W : WX} {X : Cx} {Z Z' : Hp} {S S' : List Addr} {σ : St} {H H' : Hp} {s s' : Sto} {e : Env} {b : Bs}
theorem wipe_at : ∀ (vs : List Nat) (σ : St) (i : Nat), (wipe σ vs)[i]? = if i ∈ vs then (σ[i]?).map (fun _ => none) else σ[i]?
  | [], σ, i => by simp [wipe]
  | v :: vs, σ, i => by
    simp only [wipe]
    by_cases c : i = v
    · subst c
      have hl : (wipe σ vs).length = σ.length := wipe_length σ vs
      by_cases q : i < σ.length
      · rw [List.getElem?_set_self (by rw [hl]; exact q)]
        simp [List.getElem?_eq_getElem q]
      · have n1 : σ[i]? = none := List.getElem?_eq_none_iff.mpr (by omega)
        rw [List.getElem?_eq_none_iff.mpr (by rw [List.length_set, hl]; omega)]
        simp [n1]
    · rw [List.getElem?_set_ne (Ne.symm c), wipe_at vs σ i]
      simp [c]
theorem wipeE_len : ∀ (vs : List Nat) (e : Env), (wipeE e vs).length = e.length
  | [], _ => rfl
  | v :: vs, e => by simp [wipeE, wipeE_len vs e]
theorem wipeE_at : ∀ (vs : List Nat) (e : Env) (i : Nat) (t : Slot), (wipeE e vs)[i]? = some t → (i ∈ vs ∧ t = .non) ∨ (i ∉ vs ∧ e[i]? = some t)
  | [], e, i, t, h => .inr ⟨by simp, h⟩
  | v :: vs, e, i, t, h => by
    simp only [wipeE] at h
    by_cases c : i = v
    · subst c
      have hl := (List.getElem?_eq_some_iff.mp h).1
      rw [List.length_set] at hl
      rw [List.getElem?_set_self hl] at h
      injection h with h
      exact .inl ⟨List.mem_cons_self, h.symm⟩
    · rw [List.getElem?_set_ne (Ne.symm c)] at h
      rcases wipeE_at vs e i t h with ⟨m, h⟩ | ⟨m, h⟩
      · exact .inl ⟨List.mem_cons_of_mem _ m, h⟩
      · exact .inr ⟨by simp [c, m], h⟩
theorem wipe_idem (σ : St) (vs : List Nat) : wipe (wipe σ vs) vs = wipe σ vs := by
  apply List.ext_getElem?
  intro i
  rw [wipe_at, wipe_at]
  split
  · cases σ[i]? <;> rfl
  · rfl
theorem Rel.wipe (R : Rel g b Z S σ H e s) (vs : List Nat) : Rel g b Z S (L2.wipe σ vs) H (wipeE e vs) s := by
  refine ⟨R.sto, ⟨by rw [wipeE_len, wipe_length, R.env.el], fun j t w h1 h2 => ?_, fun j j2 t t2 w h1 h2 o1 o2 h3 h4 => ?_⟩, R.ext⟩
  · rcases wipeE_at vs e j t h1 with ⟨_, rfl⟩ | ⟨m, h⟩
    · trivial
    · rw [wipe_at, if_neg m] at h2
      exact R.env.ev j t w h h2
  · rcases wipeE_at vs e j t h1 with ⟨_, rfl⟩ | ⟨m, h⟩
    · cases o1
    · rcases wipeE_at vs e j2 t2 h2 with ⟨_, rfl⟩ | ⟨m2, h'⟩
      · cases o2
      · rw [wipe_at, if_neg m] at h3
        rw [wipe_at, if_neg m2] at h4
        exact R.env.od j j2 t t2 w h h' o1 o2 h3 h4
/-- a tracked thing that is neither frozen nor stored is written -/
theorem StoR.updOwn (q : StoR g Z S H s) {p : Addr} {o o2 : HO} (h : H p = some o) (w : writable o) (z : Z p = none) (n : p ∉ S) : StoR g Z S (upd H p o2) s := by
  refine ⟨fun a u e => ?_, q.sl, fun i t a h1 h2 => ?_, q.sd, q.sz, tabs_upd q.tb h w, q.zt⟩
  · rw [upd_ne (by intro c; subst c; rw [z] at e; cases e)]; exact q.z _ _ e
  · have ne : a ≠ p := by intro c; subst c; exact n (List.mem_of_getElem? h2)
    have := q.st i t a h1 h2
    revert this
    cases t with
    | lst l => rintro ⟨vs, h, r⟩; exact ⟨vs, by rw [upd_ne ne]; exact h, r⟩
    | ins c fs => rintro ⟨dx, vs, h, r⟩; exact ⟨dx, vs, by rw [upd_ne ne]; exact h, r⟩
theorem Ext.updNew {p : Addr} {o : HO} (x : Ext S Z H S' Z' H') (h : H p = Option.none) : Ext S Z H S' Z' (upd H' p o) := by
  refine ⟨x.zz, x.ss, fun a u e n t => ?_, fun a ps e => ?_, x.nw, x.zn⟩
  · rw [upd_ne (by intro c; subst c; rw [h] at e; cases e)]; exact x.hh a u e n t
  · obtain ⟨ps', e'⟩ := x.tt a ps e
    exact ⟨ps', by rw [upd_ne (by intro c; subst c; rw [h] at e; cases e)]; exact e'⟩
theorem blk_good (G : GoodX g k N sc W X) {scope : Scope} {cl : List (Str × Addr)} {C : Addr} {s : Shared} {H : Hp} {fp : List Addr} {sc' : Scope} (hs : (compEnvC scope cl C X.env).scope = sc') : GoodX g k N sc' W0 (X.blk s H scope (compEnvC scope cl C X.env) fp) where
  hP := G.hP
  hw := G.hw
  hK := G.hK
  hmg := G.hmg
  hbase := G.hbase
  hN := G.hN
  nd := G.nd
  hsc := hs
  calm := G.calm
  room := G.room
  tk := fun u s' h => by
    obtain ⟨a, B, sI, pins, σ, H, cls, d, _, _, _, _, _, _, _, _, w⟩ := h
    exact w
/-- the reading of a comprehension's loop -/
theorem lc_imp {tgI : Tg} {own : List (Str × Nat)} {mi : Env → Sto → Rs (List D)} {mc : Env → Sto → Rs Bool} {me : M} (hix : ∀ i ∈ tgI.ix, i ∈ own.map (·.2)) {σ : St} {H : Hp} {Q : VK}
    (h : tMf g W (fun e s => (mi e s).bind fun ds s => match decide (ds.length ≤ lim) with
      | true => noEx (lcGo tgI (wipeE e (own.map (·.2))) mc me ds s)
      | false => .bad) σ H Q) : tLc (tI g W mi) (tT g tgI) (tMb g W0 mc) (tM g W0 me) (own.map (·.2)) σ H Q := by
  obtain ⟨b, Z, S, e, s, R, h⟩ := tMf_iff.mp h
  refine ⟨b, Z, S, e, s, R, ?_⟩
  cases c : mi e s with
  | ex cc r s1 => rw [c] at h; exact h
  | bad => rw [c] at h; exact h
  | ok ds s1 =>
    rw [c] at h
    simp only [Rs.bind_ok] at h
    cases c2 : decide (ds.length ≤ lim) with
    | false => rw [c2] at h; exact h.elim
    | true =>
      rw [c2] at h
      intro J Z1 S1 H1 q1 x1 io D nD
      obtain ⟨q2, x2, zD, nS⟩ := layO q1 nD (notTbl_lst [])
      have h2 := postF.back x1 h
      clear h
      refine ⟨fun i m H' => i + m = ds.length ∧ ∃ Zi Si si accV accD, StoR g Zi Si H' si ∧ Ext S1 Z1 H1 Si Zi H' ∧ H' D = some (.lst accV) ∧ DenL g Zi Si accV accD ∧ Zi D = none ∧ D ∉ Si ∧ accD.length ≤ i ∧
        postF g W Z1 S1 σ H1 Q (noEx ((lcGo tgI (wipeE e (own.map (·.2))) mc me (ds.drop i) si).bind fun xs s => .ok (accD ++ xs) s)), ⟨ds.length, by simp, Z1, S1, s1, [], [], q2, x2, upd_same, .nil, zD, nS, Nat.le_refl _, ?_⟩, ?_⟩
      · rw [List.drop_zero]
        cases c3 : lcGo tgI (wipeE e (own.map (·.2))) mc me ds s1 with
        | ok xs sf => rw [c3] at h2; simpa [noEx] using h2
        | ex _ _ _ => rw [c3] at h2; exact h2.elim
        | bad => rw [c3] at h2; exact h2.elim
      · rintro i m H' ⟨hm, Zi, Si, si, accV, accD, qi, xi, hD, rl, zDi, nDi, hlen, hp⟩
        by_cases hlt : i < ds.length
        · refine .inr ⟨io.go i Zi Si H' si hlt xi.zz qi, fun H'' => ∃ m', m' < m ∧ (i + 1 + m' = ds.length ∧ ∃ Zi Si si accV accD, StoR g Zi Si H'' si ∧ Ext S1 Z1 H1 Si Zi H'' ∧ H'' D = some (.lst accV) ∧ DenL g Zi Si accV accD ∧ Zi D = none ∧ D ∉ Si ∧ accD.length ≤ i + 1 ∧
            postF g W Z1 S1 σ H1 Q (noEx ((lcGo tgI (wipeE e (own.map (·.2))) mc me (ds.drop (i + 1)) si).bind fun xs s => .ok (accD ++ xs) s))), fun _ h => h, fun x H2 y => ?_⟩
          have hd := List.getElem?_eq_getElem hlt
          obtain ⟨Z2, q3, x3, dnx⟩ := io.yld i _ Zi Si H' si x H2 hd xi.zz xi.ss qi y
          have hD2 := x3.hh D _ hD nDi (notTbl_lst _)
          have zD2 : Z2 D = none := by
            cases q : Z2 D with
            | none => rfl
            | some u => rcases x3.zn D u q with q | q
                        · rw [zDi] at q; cases q
                        · rw [hD] at q; cases q
          have xx := xi.trans x3 q3.sz
          rw [List.drop_eq_getElem_cons hlt] at hp
          simp only [lcGo] at hp
          cases c4 : bindTg tgI ds[i] (wipeE e (own.map (·.2))) with
          | none => rw [c4] at hp; exact hp.elim
          | some e1 =>
            rw [c4] at hp
            simp only [Rs.of_some, Rs.bind_ok] at hp
            have R2 : Rel g b Z2 Si (L2.wipe σ (own.map (·.2))) H2 (wipeE e (own.map (·.2))) si := (R.wipe _).ext' (x1.trans xx q3.sz) q3
            refine ⟨b, Z2, Si, _, si, ds[i], e1, R2, dnx, c4, fun σ2 R3 hw => ⟨by rw [hw _ hix, wipe_idem], b, Z2, Si, e1, si, R3, ?_⟩⟩
            cases c5 : mc e1 si with
            | ex _ _ _ => rw [c5] at hp; exact hp.elim
            | bad => rw [c5] at hp; exact hp.elim
            | ok t s3 =>
              rw [c5] at hp
              simp only [Rs.bind_ok] at hp
              intro Z3 S3 H3 q4 x4
              have hD3 := x4.hh D _ hD2 nDi (notTbl_lst _)
              have nD3 : D ∉ S3 := fun m => (x4.nw D m).elim nDi fun q => by rw [hD2] at q; cases q
              have zD3 : Z3 D = none := by
                cases q : Z3 D with
                | none => rfl
                | some u => rcases x4.zn D u q with q | q
                            · rw [zD2] at q; cases q
                            · rw [hD2] at q; cases q
              cases t with
              | false =>
                simp only at hp
                exact ⟨m - 1, by omega, by omega, Z3, S3, s3, accV, accD, q4, xx.trans x4 q4.sz, hD3, x4.denL (x3.denL rl), zD3, nD3, by omega, hp⟩
              | true =>
                simp only at hp
                refine ⟨b, Z3, S3, e1, s3, R3.ext' x4 q4, ?_⟩
                cases c6 : me e1 s3 with
                | ex _ _ _ => rw [c6] at hp; exact hp.elim
                | bad => rw [c6] at hp; exact hp.elim
                | ok y s4 =>
                  rw [c6] at hp
                  simp only [Rs.bind_ok] at hp
                  intro v Z4 S4 H4 q5 x5 dnv
                  have hD4 := x5.hh D _ hD3 nD3 (notTbl_lst _)
                  have nD4 : D ∉ S4 := fun m => (x5.nw D m).elim nD3 fun q => by rw [hD3] at q; cases q
                  have zD4 : Z4 D = none := by
                    cases q : Z4 D with
                    | none => rfl
                    | some u => rcases x5.zn D u q with q | q
                                · rw [zD3] at q; cases q
                                · rw [hD3] at q; cases q
                  have rl4 := x5.denL (x4.denL (x3.denL rl))
                  refine ⟨accV, hD4, ?_, m - 1, by omega, by omega, Z4, S4, s4, accV ++ [v], accD ++ [y], q5.updOwn hD4 trivial zD4 nD4, Ext.updNew ((xx.trans x4 q4.sz).trans x5 q5.sz) nD, upd_same, rl4.snoc dnv, zD4, nD4, by simp; omega, ?_⟩
                  · rw [rl.length]
                    have : ds.length ≤ lim := of_decide_eq_true c2
                    show accD.length < 16777216
                    unfold lim at this
                    omega
                  · cases c7 : lcGo tgI (wipeE e (own.map (·.2))) mc me (ds.drop (i + 1)) s4 with
                    | ok xs sf =>
                      rw [c7] at hp
                      simpa [noEx, List.append_assoc] using hp
                    | ex _ _ _ => rw [c7] at hp; exact hp.elim
                    | bad => rw [c7] at hp; exact hp.elim
        · refine .inl ?_
          have hi' : i = ds.length := by omega
          subst hi'
          refine ⟨io.stop Zi Si H' si xi.zz qi, ?_⟩
          rw [List.drop_length] at hp
          simp only [lcGo, Rs.bind_ok, List.append_nil, noEx] at hp
          exact hp D accV Zi Si H' qi xi hD rl nD zDi nDi
theorem pf_lc (G : GoodX g k N sc W X) {elt tg iter : Expr} {ifs : List Expr} {scope sc' : Scope} {own : List (Str × Nat)} {pos : Pos} {tgI : Tg} {mi : Env → Sto → Rs (List D)} {mc : Env → Sto → Rs Bool} {me : M}
    (hi : PI X tg iter (tI g W mi)) (ok : BlkOk N sc scope own) (hsc : ∀ cl C, (compEnvC scope cl C X.env).scope = sc')
    (hg : ∀ X' : Cx, GoodX g k N sc' W0 X' → PG X' tg (tT g tgI)) (ht : ∀ X' : Cx, GoodX g k N sc' W0 X' → PTs X' ifs (tMb g W0 mc)) (he : ∀ X' : Cx, GoodX g k N sc' W0 X' → PE X' elt (tM g W0 me))
    (hs : notSet iter = true) (hix : ∀ i ∈ tgI.ix, i ∈ own.map (·.2)) :
    PE X (.ListComp elt [⟨tg, iter, ifs, 0⟩] scope pos) (tMf g W fun e s => (mi e s).bind fun ds s => match decide (ds.length ≤ lim) with
      | true => noEx (lcGo tgI (wipeE e (own.map (·.2))) mc me ds s)
      | false => .bad) := by
  refine PE.imp (pe_lc (own := own) (g := tT g tgI) (tt := tMb g W0 mc) (te := tM g W0 me) G.calm (by rw [G.hN]; exact G.nd) hi (by rw [G.hN, G.hsc]; exact ok) (fun s H C cl fp => hg _ (blk_good G (hsc cl C))) (fun s H C cl fp => ht _ (blk_good G (hsc cl C))) (fun s H C cl fp => he _ (blk_good G (hsc cl C))) (notSet_of hs X.env)) fun σ H Q h => lc_imp hix h
end
end Ms

set_option Elab.async false
set_option linter.all false
set_option autoImplicit false
set_option maxRecDepth 100000
set_option maxHeartbeats 1000000
namespace Ms
open PySem PySem.Spec L2 SX
open PyProof.Rows hiding St
/-- the context of a def's own statements -/
structure GoodD (g : Glob) (k : Nat) (N : List Str) (sc : Scope) (W : WX) (X : Cx) : Prop extends GoodX g k N sc W X where
  fn : ∀ x, X.fn x = true
  stk : X.stack = X.env :: X.outer
  frm : X.env.frame = some X.env.locals
  room3 : Room (4 * k + 3) X.A
  own : PassesOwn (model X.prog X.w) X.A X.env X.xe
def notComp : Expr → Bool
  | .ListComp .. => false
  | .SetComp .. => false
  | .DictComp .. => false
  | _ => true
theorem noSwap {e : Expr} {t : Option Expr} {l : Nat} {env : PySem.Env} (h : notComp e = true) : swapsWith e t l env = pure false := by
  cases e <;> first | rfl | cases h
section
variable {g : Glob} {k : Nat} {N : List Str} {sc : Scope} {W : WX} {X : Cx} {Z Z' : Hp} {S S' : List Addr} {σ : St} {H H' : Hp} {s s' : Sto} {e : Env} {b : Bs}
def postS (g : Glob) (W : WX) (b : Bs) (Z : Hp) (S : List Addr) (D : Ends) : SRs → Prop
  | .nx e' s' => ∀ σ' Z' S' H', Rel g b Z' S' σ' H' e' s' → Gro Z S Z' S' → D.nx σ' H'
  | .bk e' s' => ∀ σ' Z' S' H', Rel g b Z' S' σ' H' e' s' → Gro Z S Z' S' → D.bk σ' H'
  | .ct e' s' => ∀ σ' Z' S' H', Rel g b Z' S' σ' H' e' s' → Gro Z S Z' S' → D.ct σ' H'
  | .rt d s' => ∀ v Z' S' H', StoR g Z' S' H' s' → Ext b.S b.Z b.H S' Z' H' → Den g Z' S' v d → D.rt v H'
  | .ex c r e' s' => ∀ dd σ' Z' S' H', Rel g b Z' S' σ' H' e' s' → Gro Z S Z' S' → ExR g Z' S' H' r dd → W (.ref (g.xa c)) dd σ' H'
  | .bad => False
theorem tMS_iff {m : Env → Sto → SRs} {D : Ends} : tMS g W m D σ H ↔ ∃ b Z S e s, Rel g b Z S σ H e s ∧ postS g W b Z S D (m e s) := by
  unfold tMS
  constructor <;> (rintro ⟨b, Z, S, e, s, R, h⟩; refine ⟨b, Z, S, e, s, R, ?_⟩; revert h; cases m e s <;> exact id)
theorem postS.back {D : Ends} (y : Gro Z S Z' S') : ∀ {r : SRs}, postS g W b Z S D r → postS g W b Z' S' D r
  | .nx _ _, h => fun σ' Z2 S2 H2 R z => h σ' Z2 S2 H2 R (y.trans z)
  | .bk _ _, h => fun σ' Z2 S2 H2 R z => h σ' Z2 S2 H2 R (y.trans z)
  | .ct _ _, h => fun σ' Z2 S2 H2 R z => h σ' Z2 S2 H2 R (y.trans z)
  | .rt _ _, h => h
  | .ex _ _ _ _, h => fun dd σ' Z2 S2 H2 R z er => h dd σ' Z2 S2 H2 R (y.trans z) er
  | .bad, h => h
/-- a value first, then the rest -/
theorem stepES {m1 : M} {kk : D → Sto → SRs} {D : Ends} {Q : VK} (R : Rel g b Z S σ H e s) (hp : postS g W b Z S D ((m1 e s).bindS e kk))
    (hk : ∀ d s' v Z' S' H', postS g W b Z' S' D (kk d s') → Rel g b Z' S' σ H' e s' → Ext S Z H S' Z' H' → Den g Z' S' v d → Q v H') : tM g W m1 σ H Q := by
  refine tM_iff.mpr ⟨b, Z, S, e, s, R, ?_⟩
  cases h : m1 e s with
  | ok d s' =>
    rw [h] at hp
    exact fun v Z' S' H' q x dn => hk d s' v Z' S' H' (postS.back x.gro hp) (R.ext' x q) x dn
  | ex c d s' =>
    rw [h] at hp
    exact fun dd Z' S' H' q x er => hp dd σ Z' S' H' (R.ext' x q) x.gro er
  | bad => rw [h] at hp; exact hp
theorem stepFS {m1 : Env → Sto → Rs (List D)} {kk : List D → Sto → SRs} {D : Ends} {Q : VK} (R : Rel g b Z S σ H e s) (hp : postS g W b Z S D ((m1 e s).bindS e kk))
    (hk : ∀ d s' p vs Z' S' H', postS g W b Z' S' D (kk d s') → StoR g Z' S' H' s' → Ext S Z H S' Z' H' → H' p = some (.lst vs) → DenL g Z' S' vs d → H p = none → Z' p = none → p ∉ S' → Q (.ref p) H') : tMf g W m1 σ H Q := by
  refine tMf_iff.mpr ⟨b, Z, S, e, s, R, ?_⟩
  cases h : m1 e s with
  | ok d s' =>
    rw [h] at hp
    exact fun p vs Z' S' H' q x hp' dn n zp ns => hk d s' p vs Z' S' H' (postS.back x.gro hp) q x hp' dn n zp ns
  | ex c d s' =>
    rw [h] at hp
    exact fun dd Z' S' H' q x er => hp dd σ Z' S' H' (R.ext' x q) x.gro er
  | bad => rw [h] at hp; exact hp
theorem stepIS {m1 : Env → Sto → Rs (List D)} {kk : List D → Sto → SRs} {D : Ends} {Q : L2.It → Hp → Prop} (R : Rel g b Z S σ H e s) (hp : postS g W b Z S D ((m1 e s).bindS e kk))
    (hk : ∀ d s' J Z' S' H', postS g W b Z' S' D (kk d s') → Rel g b Z' S' σ H' e s' → ItOk g Z' S' J d → Q J H') : tI g W m1 σ H Q := by
  refine ⟨b, Z, S, e, s, R, ?_⟩
  cases h : m1 e s with
  | ok d s' =>
    rw [h] at hp
    exact fun J Z' S' H' q x io => hk d s' J Z' S' H' (postS.back x.gro hp) (R.ext' x q) io
  | ex c d s' =>
    rw [h] at hp
    exact fun dd Z' S' H' q x er => hp dd σ Z' S' H' (R.ext' x q) x.gro er
  | bad => rw [h] at hp; exact hp
theorem stepBS {m1 : Env → Sto → Rs Bool} {kk : Bool → Sto → SRs} {D : Ends} {Q : Bool → Hp → Prop} (R : Rel g b Z S σ H e s) (hp : postS g W b Z S D ((m1 e s).bindS e kk))
    (hk : ∀ d s' Z' S' H', postS g W b Z' S' D (kk d s') → Rel g b Z' S' σ H' e s' → Gro Z S Z' S' → Q d H') : tMb g W m1 σ H Q := by
  refine tMb_iff.mpr ⟨b, Z, S, e, s, R, ?_⟩
  cases h : m1 e s with
  | ok d s' =>
    rw [h] at hp
    exact fun Z' S' H' q x => hk d s' Z' S' H' (postS.back x.gro hp) (R.ext' x q) x.gro
  | ex c d s' =>
    rw [h] at hp
    exact fun dd Z' S' H' q x er => hp dd σ Z' S' H' (R.ext' x q) x.gro er
  | bad => rw [h] at hp; exact hp
theorem bind_bindS {α β : Type} (r : Rs α) (f : α → Sto → Rs β) (e : Env) (kk : β → Sto → SRs) : (r.bind f).bindS e kk = r.bindS e fun a s => (f a s).bindS e kk := by
  cases r <;> rfl
/-- a slot takes a list of its own -/
theorem Rel.seto (R : Rel g b Z S σ H e s) {p : Addr} {vs : List V} {l : List D} (q : StoR g Z' S' H' s') (x : Ext S Z H S' Z' H') (hp : H' p = some (.lst vs)) (dn : DenL g Z' S' vs l) (n : H p = none) (zp : Z' p = none) (ns : p ∉ S') {i : Nat} :
    Rel g b Z' S' (σ.set i (some (.ref p))) H' (e.set i (.own l)) s' := by
  have R' := R.ext' x q
  have nb : b.H p = none := R.ext.none n fun m => ns (x.ss.subset (R.ext.ss.subset m))
  have other : ∀ (j : Nat) (t : Slot), e[j]? = some t → isOwn t = true → σ[j]? ≠ some (some (.ref p)) := by
    intro j t h1 o h3
    have := R.env.ev j t _ h1 h3
    cases t with
    | own l' => obtain ⟨a, vs', e1, h2, _⟩ := this; injection e1 with e1; injection e1 with e1; subst e1; rw [n] at h2; cases h2
    | ownD l' => obtain ⟨a, vs', e1, h2, _⟩ := this; injection e1 with e1; injection e1 with e1; subst e1; rw [n] at h2; cases h2
    | _ => cases o
  refine ⟨q, ⟨by simp [R.env.el], fun j t w h1 h2 => ?_, fun j j2 t t2 w h1 h2 o1 o2 h3 h4 => ?_⟩, R'.ext⟩
  · by_cases c : j = i
    · subst c
      have hl : j < e.length := by have := (List.getElem?_eq_some_iff.mp h1).1; simpa using this
      rw [List.getElem?_set_self hl] at h1
      rw [List.getElem?_set_self (by rw [← R.env.el]; exact hl)] at h2
      injection h1 with h1
      injection h2 with h2
      subst h1 h2
      exact ⟨p, vs, rfl, hp, dn, zp, ns, nb⟩
    · rw [List.getElem?_set_ne (Ne.symm c)] at h1 h2
      exact R'.env.ev j t w h1 h2
  · by_cases c : j = i
    · by_cases c2 : j2 = i
      · rw [c, c2]
      · exfalso
        subst c
        have hl : j < e.length := by have := (List.getElem?_eq_some_iff.mp h1).1; simpa using this
        rw [List.getElem?_set_self (by rw [← R.env.el]; exact hl)] at h3
        injection h3 with h3; injection h3 with h3; subst h3
        rw [List.getElem?_set_ne (Ne.symm c2)] at h2 h4
        exact other j2 t2 h2 o2 h4
    · by_cases c2 : j2 = i
      · exfalso
        subst c2
        have hl : j2 < e.length := by have := (List.getElem?_eq_some_iff.mp h2).1; simpa using this
        rw [List.getElem?_set_self (by rw [← R.env.el]; exact hl)] at h4
        injection h4 with h4; injection h4 with h4; subst h4
        rw [List.getElem?_set_ne (Ne.symm c)] at h1 h3
        exact other j t h1 o1 h3
      · rw [List.getElem?_set_ne (Ne.symm c)] at h1 h3
        rw [List.getElem?_set_ne (Ne.symm c2)] at h2 h4
        exact R.env.od j j2 t t2 w h1 h2 o1 o2 h3 h4
/-! ### assignments -/
theorem ps_set_of {st : Stmt} {te : TE} {i : Nat} {m : M} (h : PS X st (tAsg te (gName i))) (ht : ∀ σ H Q, tM g W m σ H Q → te σ H Q) : PS X st (tMS g W fun e s => (m e s).bindS e fun x s => .nx (e.set i (.val x)) s) := by
  refine PS.imp h ?_
  intro D σ H h
  obtain ⟨b, Z, S, e, s, R, h⟩ := tMS_iff.mp h
  exact ht _ _ _ (stepES R h fun d s' v Z' S' H' h R' _ dn => h _ Z' S' H' (R'.setv dn) .refl)
theorem ps_own_of {st : Stmt} {te : TE} {i : Nat} {m : Env → Sto → Rs (List D)} (h : PS X st (tAsg te (gName i))) (ht : ∀ σ H Q, tMf g W m σ H Q → te σ H Q) : PS X st (tMS g W fun e s => (m e s).bindS e fun x s => .nx (e.set i (.own x)) s) := by
  refine PS.imp h ?_
  intro D σ H h
  obtain ⟨b, Z, S, e, s, R, h⟩ := tMS_iff.mp h
  exact ht _ _ _ (stepFS R h fun d s' p vs Z' S' H' h q x hp dn n zp ns => h _ Z' S' H' (R.seto q x hp dn n zp ns) .refl)
/-- a new list, frozen at once -/
theorem fl_imp {te : TE} {m : Env → Sto → Rs (List D)} (ht : ∀ σ H Q, tMf g W m σ H Q → te σ H Q) : ∀ σ H Q, tM g W (fun e s => (m e s).bind fun xs s => .ok (.lst xs) s) σ H Q → te σ H Q := by
  intro σ H Q h
  refine ht _ _ _ ?_
  obtain ⟨b, Z, S, e, s, R, h⟩ := tM_iff.mp h
  refine tMf_iff.mpr ⟨b, Z, S, e, s, R, ?_⟩
  cases c : m e s with
  | ok d s1 =>
    rw [c] at h
    intro p vs Z' S' H' q x hp dn n zp ns
    obtain ⟨q1, zz⟩ := freeze q hp zp ns
    refine h (.ref p) (upd Z' p (.lst vs)) S' H' q1 ⟨x.zz.trans zz, x.ss, x.hh, x.tt, x.nw, fun a u e => ?_⟩ (.lst upd_same (dn.mono zz (List.prefix_refl _)))
    by_cases ea : a = p
    · subst ea; exact .inr n
    · rw [upd_ne ea] at e; exact x.zn a u e
  | ex _ _ _ => rw [c] at h; exact h
  | bad => rw [c] at h; exact h
theorem ps_name (G : GoodD g k N sc W X) {x : Str} {i : Nat} {v : Expr} {te : TE} {p pos : Pos} (hn : nameIs N sc true i x = true) (hv : PE X v te) (hc : swapsWith v (some (.Name x p)) pos.line X.env = pure false) : PS X (.Assign [.Name x p] v pos) (tAsg te (gName i)) := by
  obtain ⟨h1, h2, h3⟩ := nameIs_of (X := X) G.hsc (fun _ => G.fn) hn
  exact ps_set (by rw [G.hN]; exact G.nd) (by rw [G.hN]; exact h1) (by rw [G.hsc]; exact h2) hv hc h3
theorem ps_unpE (G : GoodD g k N sc W X) {is : List Nat} {es : List Expr} {v : Expr} {kk : Nat} {p pos : Pos} {m : M} (hn : namesAre N sc true is es = true) (hv : PE X v (tM g W m)) (hc : notComp v = true) (hw : swappedStores [.Tuple es kk p] v X.env = pure none) :
    PS X (.Assign [.Tuple es kk p] v pos) (tMS g W fun e s => (m e s).bindS e fun x s => unpS is x e s) := by
  have hg : PG X (.Tuple es kk p) (tT g (.tup is)) := pg_tupE (co := true) G.calm G.hK G.hN G.nd G.hsc (fun _ => G.fn) hn
  refine PS.imp (ps_asg hv hg (show swapsWith v (some (.Tuple es kk p)) pos.line X.env = pure false from noSwap hc) hw) ?_
  intro D σ H h
  obtain ⟨b, Z, S, e, s, R, h⟩ := tMS_iff.mp h
  refine stepES R h fun d s' v Z' S' H' h R' _ dn => ?_
  cases d with
  | tup ds =>
    simp only [unpS] at h
    cases c : setAll is ds e with
    | none => rw [c] at h; exact h.elim
    | some e1 =>
      rw [c] at h
      exact ⟨b, Z', S', e, s', .tup ds, e1, R', dn, c, fun σ2 R2 _ => h σ2 Z' S' H' R2 .refl⟩
  | _ => exact h.elim
/-! ### small statements -/
theorem ps_exE {v : Expr} {pos : Pos} {m : M} (hv : PE X v (tM g W m)) (hc : notComp v = true) : PS X (.Expr v pos) (tMS g W fun e s => (m e s).bindS e fun _ s => .nx e s) := by
  refine PS.imp (ps_expr hv (noSwap hc)) ?_
  intro D σ H h
  obtain ⟨b, Z, S, e, s, R, h⟩ := tMS_iff.mp h
  exact stepES R h fun d s' v Z' S' H' h R' _ dn => h _ Z' S' H' R' .refl
theorem ps_retE {v : Expr} {pos : Pos} {m : M} (hv : PE X v (tM g W m)) : PS X (.Return (some v) pos) (tMS g W fun e s => (m e s).bindS e fun x s => .rt x s) := by
  refine PS.imp (ps_ret hv) ?_
  intro D σ H h
  obtain ⟨b, Z, S, e, s, R, h⟩ := tMS_iff.mp h
  exact stepES R h fun d s' v Z' S' H' h R' _ dn => h v Z' S' H' R'.sto R'.ext dn
theorem ps_retNE {pos : Pos} : PS X (.Return none pos) (tMS g W fun _ s => .rt .non s) := by
  refine PS.imp ps_retN ?_
  intro D σ H h
  obtain ⟨b, Z, S, e, s, R, h⟩ := tMS_iff.mp h
  exact h _ Z S H R.sto R.ext .non
theorem ps_brkE {pos : Pos} : PS X (.Break pos) (tMS g W fun e s => .bk e s) := by
  refine PS.imp ps_break ?_
  intro D σ H h
  obtain ⟨b, Z, S, e, s, R, h⟩ := tMS_iff.mp h
  exact h _ Z S H R .refl
theorem ps_contE {pos : Pos} : PS X (.Continue pos) (tMS g W fun e s => .ct e s) := by
  refine PS.imp ps_continue ?_
  intro D σ H h
  obtain ⟨b, Z, S, e, s, R, h⟩ := tMS_iff.mp h
  exact h _ Z S H R .refl
theorem ps_passE {pos : Pos} : PS X (.Pass pos) (tMS g W fun e s => .nx e s) := by
  refine PS.imp ps_pass ?_
  intro D σ H h
  obtain ⟨b, Z, S, e, s, R, h⟩ := tMS_iff.mp h
  exact h _ Z S H R .refl
theorem ps_badE {st : Stmt} : PS X st (tMS g W fun _ _ => .bad) := by
  refine ⟨fun pins s σ H D I h => ?_⟩
  obtain ⟨b, Z, S, e, s, R, h⟩ := tMS_iff.mp h
  exact h.elim
theorem pe_badE {x : Expr} : PE X x (tM g W fun _ _ => .bad) := by
  refine ⟨fun pins s σ H D I h => ?_⟩
  obtain ⟨b, Z, S, e, s, R, h⟩ := tM_iff.mp h
  exact h.elim
/-! ### blocks -/
theorem pss_nilE : PSs X [] (tMS g W fun e s => .nx e s) := by
  refine PSs.imp pss_nil ?_
  intro D σ H h
  obtain ⟨b, Z, S, e, s, R, h⟩ := tMS_iff.mp h
  exact h _ Z S H R .refl
theorem pss_consE {st : Stmt} {rest : List Stmt} {m1 m2 : Env → Sto → SRs} (h1 : PS X st (tMS g W m1)) (h2 : PSs X rest (tMS g W m2)) : PSs X (st :: rest) (tMS g W fun e s => (m1 e s).bind fun e s => m2 e s) := by
  refine PSs.imp (pss_cons h1 h2) ?_
  intro D σ H h
  obtain ⟨b, Z, S, e, s, R, h⟩ := tMS_iff.mp h
  refine tMS_iff.mpr ⟨b, Z, S, e, s, R, ?_⟩
  cases c : m1 e s with
  | nx e1 s1 =>
    rw [c] at h
    exact fun σ' Z' S' H' R' y => tMS_iff.mpr ⟨b, Z', S', e1, s1, R', h.back y⟩
  | rt _ _ => rw [c] at h; exact h
  | bk _ _ => rw [c] at h; exact h
  | ct _ _ => rw [c] at h; exact h
  | ex _ _ _ _ => rw [c] at h; exact h
  | bad => rw [c] at h; exact h
theorem Rel.frz (R : Rel g b Z S σ H e s) {i : Nat} {e' : Env} (h : frzE i e = some e') : ∃ Z', Rel g b Z' S σ H e' s ∧ HLe Z Z' := by
  unfold frzE at h
  cases c : e[i]? with
  | none => rw [c] at h; cases h
  | some t =>
    have hl : i < σ.length := by rw [← R.env.el]; exact (List.getElem?_eq_some_iff.mp c).1
    have hle := (List.getElem?_eq_some_iff.mp c).1
    rw [c] at h
    have key : ∀ (a : Addr) (o : HO) (d : D), notTbl o → σ[i]? = some (some (.ref a)) → H a = some o → Z a = none → a ∉ S → b.H a = none → isOwn t = true → e' = e.set i (.val d) → Den g (upd Z a o) S (.ref a) d → Rel g b (upd Z a o) S σ H e' s := by
      intro a o d nt hs ho za ns hb io he dn
      subst he
      obtain ⟨q1, zz⟩ := freeze R.sto ho za ns nt
      have ne : ∀ (j : Nat) (t2 : Slot) (a2 : Addr), j ≠ i → e[j]? = some t2 → isOwn t2 = true → σ[j]? = some (some (.ref a2)) → a2 ≠ a := by
        intro j t2 a2 hj h1 h2 h3 ea
        subst ea
        exact hj (R.env.od j i t2 t _ h1 c h2 io h3 hs)
      refine ⟨q1, ⟨by simp [R.env.el], fun j t2 w h1 h2 => ?_, fun j j2 t2 t3 w h1 h2 o1 o2 h3 h4 => ?_⟩, ⟨R.ext.zz.trans zz, R.ext.ss, R.ext.hh, R.ext.tt, R.ext.nw, fun p u h => ?_⟩⟩
      · by_cases cj : j = i
        · subst cj
          rw [List.getElem?_set_self hle] at h1
          injection h1 with h1
          subst h1
          rw [hs] at h2
          injection h2 with h2
          subst h2
          exact ⟨.ref a, rfl, dn⟩
        · rw [List.getElem?_set_ne (Ne.symm cj)] at h1
          have := R.env.ev j t2 w h1 h2
          cases t2 with
          | non => trivial
          | val d2 => obtain ⟨y, e1, h⟩ := this; exact ⟨y, e1, h.mono zz (List.prefix_refl _)⟩
          | own l => 
            obtain ⟨a2, vs, e1, h3, r, z2, n2, f2⟩ := this
            subst e1
            exact ⟨a2, vs, rfl, h3, r.mono zz (List.prefix_refl _), by rw [upd_ne (ne j _ a2 cj h1 rfl h2)]; exact z2, n2, f2⟩
          | ownD l =>
            obtain ⟨a2, vs, e1, h3, r, z2, n2, f2⟩ := this
            subst e1
            exact ⟨a2, vs, rfl, h3, r.mono zz (List.prefix_refl _), by rw [upd_ne (ne j _ a2 cj h1 rfl h2)]; exact z2, n2, f2⟩
      · have n1 : j ≠ i := by
          intro cj; subst cj
          rw [List.getElem?_set_self hle] at h1
          injection h1 with h1
          subst h1
          cases o1
        have n2 : j2 ≠ i := by
          intro cj; subst cj
          rw [List.getElem?_set_self hle] at h2
          injection h2 with h2
          subst h2
          cases o2
        rw [List.getElem?_set_ne (Ne.symm n1)] at h1
        rw [List.getElem?_set_ne (Ne.symm n2)] at h2
        exact R.env.od j j2 t2 t3 w h1 h2 o1 o2 h3 h4
      · by_cases ea : p = a
        · subst ea; exact .inr hb
        · rw [upd_ne ea] at h; exact R.ext.zn p u h
    have hsl := R.env.ev i t _ c (List.getElem?_eq_getElem hl)
    cases t with
    | own l =>
      injection h with h
      obtain ⟨a, vs, e1, h1, r, z, n, f⟩ := hsl
      exact ⟨_, key a (.lst vs) (.lst l) (notTbl_lst _) (by rw [List.getElem?_eq_getElem hl, e1]) h1 z n f rfl h.symm (.lst upd_same (r.mono (upd_le z) (List.prefix_refl _))), upd_le z⟩
    | ownD l =>
      injection h with h
      obtain ⟨a, vs, e1, h1, r, z, n, f⟩ := hsl
      exact ⟨_, key a (.dK vs) (.dct l) (notTbl_dK _) (by rw [List.getElem?_eq_getElem hl, e1]) h1 z n f rfl h.symm (.dct upd_same (r.mono (upd_le z) (List.prefix_refl _))), upd_le z⟩
    | _ => cases h
theorem pss_frzE {rest : List Stmt} {i : Nat} {m : Env → Sto → SRs} (h : PSs X rest (tMS g W m)) : PSs X rest (tMS g W fun e s => match frzE i e with
    | some e => m e s
    | none => .bad) := by
  refine PSs.imp h ?_
  intro D σ H h
  obtain ⟨b, Z, S, e, s, R, h⟩ := tMS_iff.mp h
  cases c : frzE i e with
  | none => rw [c] at h; exact h.elim
  | some e1 =>
    rw [c] at h
    obtain ⟨Z', R', hz⟩ := R.frz c
    exact tMS_iff.mpr ⟨b, Z', S, e1, s, R', h.back ⟨hz, List.prefix_refl _⟩⟩
/-! ### if, loops -/
theorem ps_ifE {c : Expr} {a f : List Stmt} {pos : Pos} {m : M} {m1 m2 : Env → Sto → SRs} (hc : PT X c (tMb g W (mB m))) (ha : PSs X a (tMS g W m1)) (hf : PSs X f (tMS g W m2)) :
    PS X (.If c a f pos) (tMS g W fun e s => (m e s).bindS e fun x s => (truthR x s).bindS e fun b s => match b with
      | true => m1 e s
      | false => m2 e s) := by
  refine PS.imp (ps_if hc ha hf) ?_
  intro D σ H h
  obtain ⟨b, Z, S, e, s, R, h⟩ := tMS_iff.mp h
  rw [← bind_bindS] at h
  refine stepBS (m1 := mB m) R h fun t s' Z' S' H' h R' _ => ?_
  cases t with
  | true => exact tMS_iff.mpr ⟨b, Z', S', e, s', R', h⟩
  | false => exact tMS_iff.mpr ⟨b, Z', S', e, s', R', h⟩
theorem ps_whileE {c : Expr} {body : List Stmt} {pos : Pos} {m : M} {mb : Env → Sto → SRs} (G : GoodD g k N sc W X) (hc : PT X c (tMb g W (mB m))) (hb : PSs X body (tMS g W mb)) :
    PS X (.While c body [] pos) (tMS g W fun e s => whileGo (mB m) mb fuel e s) := by
  refine PS.imp (ps_while G.own hc hb) ?_
  intro D σ H h
  obtain ⟨b, Z, S, e, s, R, h⟩ := tMS_iff.mp h
  refine ⟨fun n σ H => ∃ Z S e s, Rel g b Z S σ H e s ∧ postS g W b Z S D (whileGo (mB m) mb n e s), ⟨fuel, Z, S, e, s, R, h⟩, ?_⟩
  clear h R
  rintro n σ H ⟨Z, S, e, s, R, h⟩
  cases n with
  | zero => exact h.elim
  | succ n =>
    rw [whileGo] at h
    refine stepBS R h fun t s' Z' S' H' h R' _ => ?_
    cases t with
    | false => exact h _ Z' S' H' R' .refl
    | true =>
      refine ⟨fun σ H => ∃ Z S e s, Rel g b Z S σ H e s ∧ postS g W b Z S D (whileGo (mB m) mb n e s), fun σ2 H2 q => ⟨n, Nat.lt_succ_self _, q⟩, tMS_iff.mpr ⟨b, Z', S', e, s', R', ?_⟩⟩
      simp only at h
      cases c2 : mb e s' with
      | nx e1 s1 => rw [c2] at h; exact fun σ2 Z2 S2 H2 R2 y => ⟨Z2, S2, e1, s1, R2, h.back y⟩
      | ct e1 s1 => rw [c2] at h; exact fun σ2 Z2 S2 H2 R2 y => ⟨Z2, S2, e1, s1, R2, h.back y⟩
      | bk e1 s1 => rw [c2] at h; exact h
      | rt _ _ => rw [c2] at h; exact h
      | ex _ _ _ _ => rw [c2] at h; exact h
      | bad => rw [c2] at h; exact h
theorem ps_forE {tg iter : Expr} {body : List Stmt} {pos : Pos} {tgI : Tg} {mi : Env → Sto → Rs (List D)} {mb : Env → Sto → SRs} (G : GoodD g k N sc W X) (hi : PI X tg iter (tI g W mi)) (hg : PG X tg (tT g tgI)) (hb : PSs X body (tMS g W mb)) (hs : notSet iter = true) :
    PS X (.For tg iter body [] pos) (tMS g W fun e s => (mi e s).bindS e fun ds s => forGo tgI mb ds e s) := by
  refine PS.imp (ps_for G.own G.calm hi hg hb (notSet_of hs X.env)) ?_
  intro D σ H h
  obtain ⟨b, Z, S, e, s, R, h⟩ := tMS_iff.mp h
  refine stepIS R h fun ds s1 J Z1 S1 H1 h R1 io => ?_
  clear R
  refine ⟨fun i m σ H => i + m = ds.length ∧ ∃ Zi Si ei si, Rel g b Zi Si σ H ei si ∧ HLe Z1 Zi ∧ S1 <+: Si ∧ postS g W b Zi Si D (forGo tgI mb (ds.drop i) ei si), ⟨ds.length, by simp, Z1, S1, e, s1, R1, HLe.refl _, List.prefix_refl _, by rw [List.drop_zero]; exact h⟩, ?_⟩
  clear h R1
  rintro i m σ H ⟨hm, Zi, Si, ei, si, R, hz, hs, h⟩
  by_cases hlt : i < ds.length
  · refine .inr ⟨io.go i Zi Si H si hlt hz R.sto, fun σ' H' => ∃ m', m' < m ∧ (i + 1 + m' = ds.length ∧ ∃ Zi Si ei si, Rel g b Zi Si σ' H' ei si ∧ HLe Z1 Zi ∧ S1 <+: Si ∧ postS g W b Zi Si D (forGo tgI mb (ds.drop (i + 1)) ei si)), fun _ _ q => q, fun x H2 y => ?_⟩
    obtain ⟨Z2, q3, x3, dnx⟩ := io.yld i _ Zi Si H si x H2 (List.getElem?_eq_getElem hlt) hz hs R.sto y
    rw [List.drop_eq_getElem_cons hlt] at h
    simp only [forGo] at h
    cases c4 : bindTg tgI ds[i] ei with
    | none => rw [c4] at h; exact h.elim
    | some e1 =>
      rw [c4] at h
      simp only [Rs.of_some, Rs.bindS_ok] at h
      refine ⟨b, Z2, Si, ei, si, ds[i], e1, R.ext' x3 q3, dnx, c4, fun σ2 R2 _ => tMS_iff.mpr ⟨b, Z2, Si, e1, si, R2, ?_⟩⟩
      have h := postS.back x3.gro h
      cases c2 : mb e1 si with
      | nx e2 s2 => rw [c2] at h; exact fun σ3 Z3 S3 H3 R3 y => ⟨m - 1, by omega, by omega, Z3, S3, e2, s2, R3, hz.trans (x3.zz.trans y.1), hs.trans y.2, h.back y⟩
      | ct e2 s2 => rw [c2] at h; exact fun σ3 Z3 S3 H3 R3 y => ⟨m - 1, by omega, by omega, Z3, S3, e2, s2, R3, hz.trans (x3.zz.trans y.1), hs.trans y.2, h.back y⟩
      | bk e2 s2 => rw [c2] at h; exact h
      | rt _ _ => rw [c2] at h; exact h
      | ex _ _ _ _ => rw [c2] at h; exact h
      | bad => rw [c2] at h; exact h
  · refine .inl ?_
    have hi' : i = ds.length := by omega
    subst hi'
    refine ⟨io.stop Zi Si H si hz R.sto, ?_⟩
    rw [List.drop_length] at h
    exact h σ Zi Si H R .refl
end
end Ms

set_option Elab.async false
set_option linter.all false
set_option autoImplicit false
set_option maxRecDepth 100000
set_option maxHeartbeats 1000000
namespace Ms
open PySem PySem.Spec L2 SX
open PyProof.Rows hiding St
section
variable {g : Glob} {k : Nat} {N : List Str} {sc : Scope} {W : WX} {X : Cx} {Z Z' : Hp} {S S' : List Addr} {σ : St} {H H' : Hp} {s s' : Sto} {e : Env} {b : Bs}
/-- the slot of a list of one's own, whole -/
theorem own_slot (R : Rel g b Z S σ H e s) {i : Nat} {l : List D} (h : e.getO i = some l) : e[i]? = some (.own l) := by
  unfold Env.getO at h
  cases c : e[i]? with
  | none => rw [c] at h; cases h
  | some t =>
    rw [c] at h
    cases t with
    | own l' => injection h with h; subst h; rfl
    | _ => cases h
/-- a list of one's own is written -/
theorem Rel.updo (R : Rel g b Z S σ H e s) {i : Nat} {l l' : List D} {a : Addr} {vs vs' : List V} (hi : e[i]? = some (.own l)) (hs : σ[i]? = some (some (.ref a))) (ha : H a = some (.lst vs)) (dn : DenL g Z S vs' l') :
    Rel g b Z S σ (upd H a (.lst vs')) (e.set i (.own l')) s := by
  obtain ⟨a', vs0, e1, h1, r, z, n, f⟩ := R.env.ev i _ _ hi hs
  injection e1 with e1
  injection e1 with e1
  subst e1
  have hle := (List.getElem?_eq_some_iff.mp hi).1
  have ne : ∀ (j : Nat) (t2 : Slot) (a2 : Addr), j ≠ i → e[j]? = some t2 → isOwn t2 = true → σ[j]? = some (some (.ref a2)) → a2 ≠ a := by
    intro j t2 a2 hj q1 q2 q3 ea
    rw [ea] at q3
    exact hj (R.env.od j i t2 _ _ q1 hi q2 rfl q3 hs)
  refine ⟨R.sto.updOwn ha trivial z n, ⟨by simp [R.env.el], fun j t w h1 h2 => ?_, fun j j2 t2 t3 w h1 h2 o1 o2 h3 h4 => ?_⟩, Ext.updNew R.ext f⟩
  · by_cases cj : j = i
    · subst cj
      rw [List.getElem?_set_self hle] at h1
      injection h1 with h1
      subst h1
      rw [hs] at h2
      injection h2 with h2
      subst h2
      exact ⟨a, vs', rfl, upd_same, dn, z, n, f⟩
    · rw [List.getElem?_set_ne (Ne.symm cj)] at h1
      have := R.env.ev j t w h1 h2
      cases t with
      | non => trivial
      | val d2 => exact this
      | own l =>
        obtain ⟨a2, vs2, e1, h3, r2, z2, n2, f2⟩ := this
        subst e1
        exact ⟨a2, vs2, rfl, by rw [upd_ne (ne j _ a2 cj h1 rfl h2)]; exact h3, r2, z2, n2, f2⟩
      | ownD l =>
        obtain ⟨a2, vs2, e1, h3, r2, z2, n2, f2⟩ := this
        subst e1
        exact ⟨a2, vs2, rfl, by rw [upd_ne (ne j _ a2 cj h1 rfl h2)]; exact h3, r2, z2, n2, f2⟩
  · have up : ∀ (j : Nat) (t2 : Slot), (e.set i (.own l'))[j]? = some t2 → isOwn t2 = true → ∃ t3, e[j]? = some t3 ∧ isOwn t3 = true := by
      intro j t2 h o
      by_cases cj : j = i
      · subst cj; exact ⟨_, hi, rfl⟩
      · rw [List.getElem?_set_ne (Ne.symm cj)] at h; exact ⟨t2, h, o⟩
    obtain ⟨t4, h5, o5⟩ := up j t2 h1 o1
    obtain ⟨t6, h6, o6⟩ := up j2 t3 h2 o2
    exact R.env.od j j2 t4 t6 w h5 h6 o5 o6 h3 h4
theorem own_all (R : Rel g b Z S σ H e s) {i : Nat} {l : List D} (h : e.getO i = some l) : ∃ a vs, e[i]? = some (.own l) ∧ σ[i]? = some (some (.ref a)) ∧ H a = some (.lst vs) ∧ DenL g Z S vs l := by
  obtain ⟨a, vs, h1, h2, r, _⟩ := own_at R h
  exact ⟨a, vs, own_slot R h, h1, h2, r⟩
/-- the name of a slot of one's own -/
structure NmOk (N : List Str) (sc : Scope) (i : Nat) (x : Str) : Prop where
  at_ : N[i]? = some x
  vis : Vis sc x
  d1 : (x == ("__debug__" : Str)) = false
  d2 : (x == ("__classdict__" : Str)) = false
theorem GoodX.var (G : GoodX g k N sc W X) {i : Nat} {x : Str} {p : Pos} (n : NmOk N sc i x) : PE X (.Name x p) (tVar i) := pe_var (by rw [G.hN]; exact n.at_) (by rw [G.hsc]; exact n.vis) n.d1 n.d2
theorem few1 {x : Expr} {env : PySem.Env} {cpos : Pos} (h : notStar x = true) : ((backTo cpos (starEach [x] env)).all (fun x => !x.1) && (backToKw cpos (keywordEach [] env)).all (fun x => x.1.isSome)
      && decide (([x] : List Expr).length + ([] : List Keyword).length + (if ([] : List Keyword).isEmpty then 0 else 1) < 30)) = true := by
  rw [star1 h]; rfl
theorem few2 {x y : Expr} {env : PySem.Env} {cpos : Pos} (h : notStar x = true) (h2 : notStar y = true) : ((backTo cpos (starEach [x, y] env)).all (fun x => !x.1) && (backToKw cpos (keywordEach [] env)).all (fun x => x.1.isSome)
      && decide (([x, y] : List Expr).length + ([] : List Keyword).length + (if ([] : List Keyword).isEmpty then 0 else 1) < 30)) = true := by
  rw [star1 h, star1 h2]; rfl
theorem ps_appE (G : GoodX g k N sc W X) {i : Nat} {x : Str} {p apos cpos pos : Pos} {y : Expr} {m : M} (n : NmOk N sc i x) (ha : PE X y (tM g W m)) (hs : notStar y = true) (hl : (apos.endLine == cpos.line) = true) :
    PS X (.Expr (.Call (.Attribute (.Name x p) "append" apos) [y] [] cpos) pos) (tMS g W fun e s => (Rs.of (e.getO i) s).bindS e fun l s => (m e s).bindS e fun x s => match decide (l.length < lim) with
      | true => .nx (e.set i (.own (l ++ [x]))) s
      | false => .bad) := by
  refine PS.imp (ps_expr (pe_bm PySem.F.plainAttrs_list PySem.F.slot_list_append PySem.F.type_list_append mt_append (G.var n) (pa_cons ha pa_nil (star1 hs)) rfl (few1 hs) hl (star1 hs) rfl) rfl) ?_
  intro D σ H h
  obtain ⟨b, Z, S, e, s, R, h⟩ := tMS_iff.mp h
  cases c : e.getO i with
  | none => rw [c] at h; exact h.elim
  | some l =>
    rw [c] at h
    obtain ⟨a, vs, h0, h1, h2, r⟩ := own_all R c
    refine ⟨_, h1, .inl ⟨rfl, vs, SqL.of h2⟩, stepES R h fun d s1 v Z1 S1 H1 h R1 _ dn => ?_⟩
    obtain ⟨a', vs', h0, h3, h4, r'⟩ := own_all R1 c
    rw [h1] at h3
    injection h3 with h3; injection h3 with h3; injection h3 with h3
    subst h3
    cases c2 : decide (l.length < lim) with
    | false => rw [c2] at h; exact h.elim
    | true =>
      rw [c2] at h
      refine ⟨a, vs', v, rfl, rfl, h4, by rw [r'.length]; exact of_decide_eq_true c2, ?_⟩
      exact h _ Z1 S1 _ (R1.updo h0 h1 h4 (r'.snoc dn)) .refl
theorem ps_extE (G : GoodX g k N sc W X) {i : Nat} {x : Str} {p apos cpos pos : Pos} {y : Expr} {m : M} (n : NmOk N sc i x) (ha : PE X y (tM g W m)) (hs : notStar y = true) (hl : (apos.endLine == cpos.line) = true) :
    PS X (.Expr (.Call (.Attribute (.Name x p) "extend" apos) [y] [] cpos) pos) (tMS g W fun e s => (Rs.of (e.getO i) s).bindS e fun l s => (m e s).bindS e fun x s => extO l i x e s) := by
  refine PS.imp (ps_expr (pe_bm PySem.F.plainAttrs_list PySem.F.slot_list_extend PySem.F.type_list_extend mt_extend (G.var n) (pa_cons ha pa_nil (star1 hs)) rfl (few1 hs) hl (star1 hs) rfl) rfl) ?_
  intro D σ H h
  obtain ⟨b, Z, S, e, s, R, h⟩ := tMS_iff.mp h
  cases c : e.getO i with
  | none => rw [c] at h; exact h.elim
  | some l =>
    rw [c] at h
    obtain ⟨a, vs, h0, h1, h2, r⟩ := own_all R c
    refine ⟨_, h1, .inl ⟨rfl, vs, SqL.of h2⟩, stepES R h fun d s1 v Z1 S1 H1 h R1 _ dn => ?_⟩
    obtain ⟨a', vs', h0, h3, h4, r'⟩ := own_all R1 c
    rw [h1] at h3
    injection h3 with h3; injection h3 with h3; injection h3 with h3
    subst h3
    cases e1 : der s1 d with
    | lst l2 =>
      simp only [extO, e1] at h
      obtain ⟨a2, ws, rfl, h5, r2⟩ := lst_of R1.sto dn e1
      cases c2 : decide (l.length + l2.length ≤ lim) with
      | false => rw [c2] at h; exact h.elim
      | true =>
        rw [c2] at h
        refine ⟨a, a2, vs', ws, rfl, rfl, h4, h5, by rw [r'.length, r2.length]; exact of_decide_eq_true c2, ?_⟩
        exact h _ Z1 S1 _ (R1.updo h0 h1 h4 (r'.append r2)) .refl
    | _ => simp only [extO, e1] at h; exact h.elim
theorem ps_insE (G : GoodX g k N sc W X) {i : Nat} {x : Str} {p apos cpos pos : Pos} {y z : Expr} {m m2 : M} (n : NmOk N sc i x) (ha : PE X y (tM g W m)) (hb : PE X z (tM g W m2)) (hs : notStar y = true) (hs2 : notStar z = true) (hl : (apos.endLine == cpos.line) = true) :
    PS X (.Expr (.Call (.Attribute (.Name x p) "insert" apos) [y, z] [] cpos) pos) (tMS g W fun e s => (Rs.of (e.getO i) s).bindS e fun l s => (m e s).bindS e fun k s => (m2 e s).bindS e fun x s => insO l i k x e s) := by
  refine PS.imp (ps_expr (pe_bm PySem.F.plainAttrs_list PySem.F.slot_list_insert PySem.F.type_list_insert mt_insert (G.var n) (pa_cons ha (pa_cons hb pa_nil (star1 hs2)) (star1 hs)) rfl (few2 hs hs2) hl (star1 hs) (by rw [star1 hs2]; rfl)) rfl) ?_
  intro D σ H h
  obtain ⟨b, Z, S, e, s, R, h⟩ := tMS_iff.mp h
  cases c : e.getO i with
  | none => rw [c] at h; exact h.elim
  | some l =>
    rw [c] at h
    obtain ⟨a, vs, h0, h1, h2, r⟩ := own_all R c
    refine ⟨_, h1, .inl ⟨rfl, vs, SqL.of h2⟩, stepES R h fun d s1 v Z1 S1 H1 h R1 _ dn => stepES R1 h fun d2 s2 v2 Z2 S2 H2 h R2 x2 dn2 => ?_⟩
    obtain ⟨a', vs', h0, h3, h4, r'⟩ := own_all R2 c
    rw [h1] at h3
    injection h3 with h3; injection h3 with h3; injection h3 with h3
    subst h3
    cases dn with
    | int j =>
      simp only [insO] at h
      cases c2 : decide (0 ≤ j) && decide (j ≤ l.length) && decide (l.length < 1000000) with
      | false => rw [c2] at h; exact h.elim
      | true =>
        rw [c2] at h
        simp only [Bool.and_eq_true, decide_eq_true_eq] at c2
        refine ⟨a, vs', j, v2, rfl, rfl, h4, ?_, c2.1.1, ?_, ?_⟩
        · rw [r'.length]; show l.length < 16777216; omega
        · have := c2.1.2; have := c2.2; omega
        · have dn3 := (r'.take j.toNat).append (.cons dn2 (r'.drop j.toNat))
          have := h _ Z2 S2 _ (R2.updo h0 h1 h4 dn3) .refl
          rw [List.append_assoc]
          exact this
    | _ => exact h.elim
/-! ### stores by place -/
theorem pg_subE {o i : Expr} {to ti : TE} {t : TSet} {pos : Pos} (ho : PE X o to) (hi : PE X i ti) (hs : PSet X t) (hn : notSlice i = true) : PG X (.Subscript o i pos) (gSub to ti t) := by
  refine pg_sub ho hi hs ?_
  intro v
  cases i <;> first | rfl | cases hn
theorem sole_ne {t e : Expr} {l : Nat} {env : PySem.Env} (h : notComp e = true) : swapsWithSole [t] e l env = pure false := noSwap h
def notTup : Expr → Bool
  | .Tuple .. => false
  | _ => true
theorem noSwapped {t e : Expr} {env : PySem.Env} (h : (match t with | .Tuple .. => false | .List .. => false | _ => true) = true) : swappedStores [t] e env = pure none := by
  cases t <;> first | rfl | cases h
theorem ps_setOE (G : GoodX g k N sc W X) {i : Nat} {x : Str} {p p2 pos : Pos} {y z : Expr} {m m2 : M} (n : NmOk N sc i x) (ha : PE X y (tM g W m)) (hb : PE X z (tM g W m2)) (hs : notSlice y = true) (hc : notComp z = true) :
    PS X (.Assign [.Subscript (.Name x p) y p2] z pos) (tMS g W fun e s => (Rs.of (e.getO i) s).bindS e fun l s => (m2 e s).bindS e fun x s => (m e s).bindS e fun k s => setOO l i k x e s) := by
  refine PS.imp (ps_asg hb (pg_subE (G.var n) ha set_list hs) (sole_ne hc) (noSwapped rfl) rfl) ?_
  intro D σ H h
  obtain ⟨b, Z, S, e, s, R, h⟩ := tMS_iff.mp h
  cases c : e.getO i with
  | none => rw [c] at h; exact h.elim
  | some l =>
    rw [c] at h
    simp only [Rs.of_some, Rs.bindS_ok] at h
    refine stepES R h fun d s1 v Z1 S1 H1 h R1 _ dn => ?_
    obtain ⟨a, vs, h0, h1, h2, r⟩ := own_all R1 c
    refine ⟨_, h1, stepES R1 h fun d2 s2 v2 Z2 S2 H2 h R2 x2 dn2 => ?_⟩
    obtain ⟨a', vs', h0, h3, h4, r'⟩ := own_all R2 c
    rw [h1] at h3
    injection h3 with h3; injection h3 with h3; injection h3 with h3
    subst h3
    cases dn2 with
    | int j =>
      simp only [setOO] at h
      cases c2 : ixPos l.length j with
      | none => rw [c2] at h; exact h.elim
      | some q =>
        rw [c2] at h
        refine ⟨a, vs', j, q, rfl, rfl, h4, by rw [r'.length]; exact c2, ?_⟩
        exact h _ Z2 S2 _ (R2.updo h0 h1 h4 (DenL.set (x2.den dn) q r')) .refl
    | _ => exact h.elim
/-! ### stored things -/
theorem lst_cell (q : StoR g Z S H s) {v : V} {d : D} {l : List D} (dn : Den g Z S v d) (h : lstOf s d = some l) : ∃ n a vs, d = .obj n ∧ v = .ref a ∧ s[n]? = some (.lst l) ∧ S[n]? = some a ∧ H a = some (.lst vs) ∧ DenL g Z S vs l := by
  cases dn with
  | @obj n a hn =>
    have hc := list_cell h
    obtain ⟨vs, h1, r⟩ := q.st n _ a hc hn
    exact ⟨n, a, vs, rfl, rfl, hc, hn, h1, r⟩
  | _ => cases h
theorem ps_appSE {o y : Expr} {apos cpos pos : Pos} {m1 m2 : M} (ho : PE X o (tM g W m1)) (ha : PE X y (tM g W m2)) (hs : notStar y = true) (hsu : noSuper o = true) (hl : (apos.endLine == cpos.line) = true) :
    PS X (.Expr (.Call (.Attribute o "append" apos) [y] [] cpos) pos) (tMS g W fun e s => (m1 e s).bindS e fun y s => (Rs.of (lstOf s y) s).bindS e fun _ s => (m2 e s).bindS e fun x s => appSS y x e s) := by
  refine PS.imp (ps_expr (pe_bm PySem.F.plainAttrs_list PySem.F.slot_list_append PySem.F.type_list_append mt_append ho (pa_cons ha pa_nil (star1 hs)) (base_of hsu) (few1 hs) hl (star1 hs) rfl) rfl) ?_
  intro D σ H h
  obtain ⟨b, Z, S, e, s, R, h⟩ := tMS_iff.mp h
  refine stepES R h fun d s1 v Z1 S1 H1 h R1 _ dn => ?_
  cases c : lstOf s1 d with
  | none => rw [c] at h; exact h.elim
  | some l =>
    rw [c] at h
    obtain ⟨n, a, vs, rfl, rfl, hc, hn, h1, r⟩ := lst_cell R1.sto dn c
    refine ⟨.inl ⟨rfl, vs, SqL.of h1⟩, stepES R1 h fun d2 s2 v2 Z2 S2 H2 h R2 x2 dn2 => ?_⟩
    simp only [appSS] at h
    cases c2 : s2.list n with
    | none => rw [c2] at h; exact h.elim
    | some l2 =>
      rw [c2] at h
      simp only at h
      cases c3 : decide (l2.length < lim) with
      | false => rw [c3] at h; exact h.elim
      | true =>
        rw [c3] at h
        have hn2 := pre_get x2.ss hn
        have hc2 := list_cell c2
        obtain ⟨vs2, h2, r2⟩ := R2.sto.st n _ a hc2 hn2
        obtain ⟨q1, x1⟩ := updCell (c2 := .lst (l2 ++ [d2])) (o := .lst (vs2 ++ [v2])) R2.sto hc2 hn2 ⟨vs2 ++ [v2], upd_same, r2.snoc dn2⟩
        exact ⟨a, vs2, v2, rfl, rfl, h2, by rw [r2.length]; exact of_decide_eq_true c3, h _ Z2 S2 _ (R2.ext' x1 q1) .refl⟩
/-- o[i] = v of a stored list -/
theorem setIS_r {b : Bs} {En : Ends} {v1 v2 v : V} {o i d : D} (R : Rel g b Z S σ H e s) (ho : Den g Z S v1 o) (hi : Den g Z S v2 i) (hd : Den g Z S v d) (h : postS g W b Z S En (setIS o i d e s)) : rSetL v1 v2 v H (fun H3 => En.nx σ H3) := by
  cases ho with
  | @obj n a hn =>
    cases hi with
    | int j =>
      simp only [setIS] at h
      cases c : s.list n with
      | none => rw [c] at h; exact h.elim
      | some l =>
        rw [c] at h
        simp only at h
        cases c2 : ixPos l.length j with
        | none => rw [c2] at h; exact h.elim
        | some q =>
          rw [c2] at h
          have hc := list_cell c
          obtain ⟨vs, h1, r⟩ := R.sto.st n _ a hc hn
          obtain ⟨q1, x1⟩ := updCell (c2 := .lst (l.set q d)) (o := .lst (vs.set q v)) R.sto hc hn ⟨vs.set q v, upd_same, DenL.set hd q r⟩
          exact ⟨a, vs, j, q, rfl, rfl, h1, by rw [r.length]; exact c2, h _ Z S _ (R.ext' x1 q1) .refl⟩
    | _ => exact h.elim
  | _ => cases hi <;> exact h.elim
theorem ps_setIE {o y z : Expr} {p2 pos : Pos} {m1 m2 m3 : M} (ho : PE X o (tM g W m1)) (ha : PE X y (tM g W m2)) (hb : PE X z (tM g W m3)) (hs : notSlice y = true) (hc : notComp z = true) :
    PS X (.Assign [.Subscript o y p2] z pos) (tMS g W fun e s => (m3 e s).bindS e fun x s => (m1 e s).bindS e fun y s => (m2 e s).bindS e fun k s => setIS y k x e s) := by
  refine PS.imp (ps_asg hb (pg_subE ho ha set_list hs) (sole_ne hc) (noSwapped rfl) rfl) ?_
  intro D σ H h
  obtain ⟨b, Z, S, e, s, R, h⟩ := tMS_iff.mp h
  refine stepES R h fun d s1 v Z1 S1 H1 h R1 _ dn => ?_
  refine stepES R1 h fun d2 s2 v2 Z2 S2 H2 h R2 x2 dn2 => ?_
  refine stepES R2 h fun d3 s3 v3 Z3 S3 H3 h R3 x3 dn3 => ?_
  exact setIS_r R3 (x3.den dn2) dn3 (x3.den (x2.den dn)) h
/-- o.f = v -/
theorem ps_setFE (G : GoodX g k N sc W X) {o z : Expr} {nm : Str} {p2 pos : Pos} {f : Nat} {m1 m3 : M} (hnm : nm = g.fnm f) (hf : ∀ c, FldOk g c f) (ho : PE X o (tM g W m1)) (hb : PE X z (tM g W m3)) (hc : notComp z = true) :
    PS X (.Assign [.Attribute o nm p2] z pos) (tMS g W fun e s => (m3 e s).bindS e fun x s => (m1 e s).bindS e fun y s => setFS y f x e s) := by
  subst hnm
  refine PS.imp (ps_fld ho hb (noSwap hc)) ?_
  intro D σ H h
  obtain ⟨b, Z, S, e, s, R, h⟩ := tMS_iff.mp h
  refine stepES R h fun d s1 v Z1 S1 H1 h R1 _ dn => ?_
  refine stepES R1 h fun d2 s2 v2 Z2 S2 H2 h R2 x2 dn2 => ?_
  cases dn2 with
  | @obj n a hn =>
    simp only [setFS] at h
    cases c : s2[n]? with
    | none => rw [c] at h; exact h.elim
    | some t =>
      rw [c] at h
      cases t with
      | lst l => exact h.elim
      | ins c0 fs =>
        simp only at h
        cases c3 : decide (fs.length < 1000) with
        | false => rw [c3] at h; exact h.elim
        | true =>
          rw [c3] at h
          obtain ⟨dx, vs, h1, r⟩ := R2.sto.st n _ a c hn
          have r2 := fld_put (f := f) (hf c0).inj (x2.den dn) r
          obtain ⟨q1, x1⟩ := updCell (c2 := .ins c0 (Ms.putF f d fs)) (o := .ins (g.ca c0) dx (L2.putF (g.fnm f) v vs)) R2.sto c hn ⟨dx, _, upd_same, r2⟩
          refine ⟨a, g.ca c0, dx, vs, rfl, h1, by rw [G.hK]; exact (hf c0).cls, by rw [G.hK]; exact (hf c0).no, by rw [fld_len r]; exact of_decide_eq_true c3, ?_⟩
          exact h _ Z2 S2 _ (R2.ext' x1 q1) .refl
  | _ => exact h.elim
end
end Ms

set_option Elab.async false
set_option linter.all false
set_option autoImplicit false
set_option maxRecDepth 100000
set_option maxHeartbeats 1000000
namespace Ms
open PySem PySem.Spec L2 SX
open PyProof.Rows hiding St
section
variable {g : Glob} {k : Nat} {N : List Str} {sc : Scope} {W : WX} {X : Cx} {Z Z' : Hp} {S S' : List Addr} {σ : St} {H H' : Hp} {s s' : Sto} {e : Env} {b : Bs}
/-! ### several plain names at once: stored from the last one on -/
def setsR (is : List Nat) (xs : List V) (σ : St) : St := (is.zip xs).reverse.foldl (fun σ p => σ.set p.1 (some p.2)) σ
/-- plain names in their slots -/
inductive Loc1 (N : List Str) (sc : Scope) : List Nat → List Str → Prop
  | nil : Loc1 N sc [] []
  | cons {i : Nat} {x : Str} {is : List Nat} {xs : List Str} : N[i]? = some x → sc.names.lookup x = some .local → Loc1 N sc is xs → Loc1 N sc (i :: is) (x :: xs)
theorem Loc1.snoc {is : List Nat} {xs : List Str} {i : Nat} {x : Str} (h : Loc1 N sc is xs) (h1 : N[i]? = some x) (h2 : sc.names.lookup x = some .local) : Loc1 N sc (is ++ [i]) (xs ++ [x]) := by
  induction h with
  | nil => exact .cons h1 h2 .nil
  | cons a c _ ih => exact .cons a c ih
theorem Loc1.rev {is : List Nat} {xs : List Str} (h : Loc1 N sc is xs) : Loc1 N sc is.reverse xs.reverse := by
  induction h with
  | nil => exact .nil
  | cons a c _ ih => rw [List.reverse_cons, List.reverse_cons]; exact ih.snoc a c
theorem Loc1.len {is : List Nat} {xs : List Str} (h : Loc1 N sc is xs) : is.length = xs.length := by
  induction h with
  | nil => rfl
  | cons _ _ _ ih => simp [ih]
theorem stores_ok {pins : List (Addr × Obj)} {E : Value → Shared → Prop} {Q : Unit → Shared → Prop} (hN : X.N = N) (nd : N.Nodup) (hsc : X.env.scope = sc) {is : List Nat} {xs : List Str} (h : Loc1 N sc is xs) :
    ∀ {s : Shared} {σ : St} {H : Hp} {vs : List V} {us : List Value}, L2.Inv X pins σ H s → Vals vs us → vs.length = is.length →
      (∀ s', L2.Inv X pins ((is.zip vs).foldl (fun σ p => σ.set p.1 (some p.2)) σ) H s' → Q () s') →
      wpAny (model X.prog X.w) X.A (assignInOrder (xs.map fun n v => bindName X.env n v) us) Q E s := by
  induction h with
  | nil =>
    intro s σ H vs us I r l q
    cases r with
    | nil => exact assignInOrder_nil (q s I)
    | cons _ _ => simp at l
  | @cons i x is xs h1 h2 _ ih =>
    intro s σ H vs us I r l q
    cases r with
    | nil => simp at l
    | cons r1 r2 =>
      refine assignInOrder_cons (wpAny_bindName (store_ok I (by rw [hN]; exact nd) (by rw [hN]; exact h1) (.inl (by rw [hsc]; exact h2)) r1 (fun s2 I2 => ih I2 r2 (by simpa using l) fun s3 I3 => q s3 I3) (.inr (by rw [hsc]; exact h2))))
theorem zip_rev {α β : Type} : ∀ {as : List α} {bs : List β}, as.length = bs.length → as.reverse.zip bs.reverse = (as.zip bs).reverse
  | [], [], _ => rfl
  | [], _ :: _, h => by simp at h
  | _ :: _, [], h => by simp at h
  | a :: as, b :: bs, h => by
    have hl : as.length = bs.length := by simpa using h
    have e : (as.zip bs).reverse ++ [(a, b)] = ((a :: as).zip (b :: bs)).reverse := by rw [List.zip_cons_cons, List.reverse_cons]
    rw [List.reverse_cons, List.reverse_cons, List.zip_append (by simp [hl]), zip_rev hl]
    exact e
theorem Vals.rev {vs : List V} {us : List Value} (h : Vals vs us) : Vals vs.reverse us.reverse := L2.Vals.reverse h
theorem ps_swap (G : GoodX g k N sc W X) {ts : List Expr} {v : Expr} {kt : Nat} {pt pos : Pos} {te : TE} {is : List Nat} {xs : List Str} (hx : Loc1 N sc is xs) (hv : PE X v te) (hw : swappedStores [.Tuple ts kt pt] v X.env = pure (some xs)) (hc : notComp v = true) :
    PS X (.Assign [.Tuple ts kt pt] v pos) (fun D σ H => te σ H fun x H1 => ∃ p ys, x = .ref p ∧ SqT X.K H1 p ys ∧ ys.length = is.length ∧ D.nx (setsR is ys σ) H1) := by
  refine ⟨fun pins s σ H D I h => ?_⟩
  rw [exec_Assign_arm, sole_ne hc, hw]
  refine wpAny_bind (wpAny_standAt (wpAny_bind (wpAny_pure ?_)))
  rw [if_neg (by decide)]
  refine wpAny_bind (thn (hv.run pins s σ H _ I h) ?_)
  rintro u s1 ⟨x, H1, I1, rx, p, ys, rfl, hq, hl, q⟩
  obtain rfl : u = Value.ref p := rx
  refine wpAny_bind (wpAny_pure ?_)
  obtain ⟨its, rv, ht, _⟩ := I1.tuple hq
  have hlen : its.toArray.size = xs.length := by rw [← hx.len, ← hl, rv.length]; simp
  show wpAny (model X.prog X.w) X.A (do
    rule "assign.swapped-stores"
    let items ← unpackItems (.ref p) xs.length none
    assignInOrder (xs.reverse.map fun n => bindName X.env n) items.reverse
    pure Flow.next) _ _ _
  rw [← hlen]
  refine wpAny_bind (wpAny_rule (wpAny_bind (unpackItems_tuple (I.ok.hd G.calm) ht fun h' hx' => ?_)))
  have I2 := I1.kept (h' := h') (t' := s1.toks) fun b o e => hx' b o (Nat.ne_of_lt (Heap.lt_size e)) e
  refine wpAny_bind (stores_ok G.hN G.nd G.hsc hx.rev I2 (Vals.rev rv) (by simp [hl]) fun s3 I3 => wpAny_pure ?_)
  rw [zip_rev hl.symm] at I3
  exact ⟨_, H1, I3, q⟩
theorem setsR_rel : ∀ {ps : List (Nat × (V × D))} {e : Env} {σ : St}, (∀ p ∈ ps, Den g Z S p.2.1 p.2.2) → Rel g b Z S σ H e s →
    Rel g b Z S ((ps.map fun p => (p.1, p.2.1)).foldl (fun σ p => σ.set p.1 (some p.2)) σ) H ((ps.map fun p => (p.1, p.2.2)).foldl (fun e p => e.set p.1 (.val p.2)) e) s
  | [], _, _, _, R => R
  | p :: ps, e, σ, h, R => by
    simp only [List.map_cons, List.foldl_cons]
    exact setsR_rel (fun q hq => h q (List.mem_cons_of_mem _ hq)) (R.setv (h p List.mem_cons_self))
theorem zip3 : ∀ {vs : List V} {ds : List D} (_ : DenL g Z S vs ds) (is : List Nat), (∀ p ∈ is.zip (vs.zip ds), Den g Z S p.2.1 p.2.2) ∧ (is.zip (vs.zip ds)).map (fun p => (p.1, p.2.1)) = is.zip vs ∧ (is.zip (vs.zip ds)).map (fun p => (p.1, p.2.2)) = is.zip ds
  | _, _, .nil, is => by simp
  | _, _, .cons _ _, [] => by simp
  | _, _, .cons h r, i :: is => by
    obtain ⟨h1, h2, h3⟩ := zip3 r is
    refine ⟨fun p hp => ?_, by simp [h2], by simp [h3]⟩
    simp only [List.zip_cons_cons, List.mem_cons] at hp
    rcases hp with rfl | hp
    · exact h
    · exact h1 p hp
theorem setRev_rel {is : List Nat} {vs : List V} {ds : List D} (r : DenL g Z S vs ds) (R : Rel g b Z S σ H e s) : Rel g b Z S (setsR is vs σ) H (setRev is ds e) s := by
  obtain ⟨h1, h2, h3⟩ := zip3 r is
  unfold setsR setRev
  rw [← h2, ← h3, ← List.map_reverse, ← List.map_reverse]
  exact setsR_rel (fun p hp => h1 p (List.mem_reverse.mp hp)) R
theorem ps_parE (G : GoodX g k N sc W X) {ts : List Expr} {v : Expr} {kt : Nat} {pt pos : Pos} {m : M} {is : List Nat} {xs : List Str} (hx : Loc1 N sc is xs) (hv : PE X v (tM g W m)) (hw : swappedStores [.Tuple ts kt pt] v X.env = pure (some xs)) (hc : notComp v = true) :
    PS X (.Assign [.Tuple ts kt pt] v pos) (tMS g W fun e s => (m e s).bindS e fun x s => match x with
      | .tup ds => (match decide (ds.length = is.length) with
        | true => .nx (setRev is ds e) s
        | false => .bad)
      | _ => .bad) := by
  refine PS.imp (ps_swap G hx hv hw hc) ?_
  intro D σ H h
  obtain ⟨b, Z, S, e, s, R, h⟩ := tMS_iff.mp h
  refine stepES R h fun d s1 v Z1 S1 H1 h R1 _ dn => ?_
  cases d with
  | tup ds =>
    cases dn with
    | @tup p ys _ hz r =>
      simp only at h
      cases c : decide (ds.length = is.length) with
      | false => rw [c] at h; exact h.elim
      | true =>
        rw [c] at h
        exact ⟨p, ys, rfl, SqT.up hz G R1.sto, by rw [r.length]; exact of_decide_eq_true c, h _ Z1 S1 H1 (setRev_rel r R1) .refl⟩
  | _ => exact h.elim
theorem ps_paroE (G : GoodX g k N sc W X) {ts : List Expr} {x y : Expr} {k2 kt : Nat} {p2 pt pos : Pos} {m : M} {mf : Env → Sto → Rs (List D)} {i j : Nat} {n1 n2 : Str} (hx : Loc1 N sc [i, j] [n1, n2]) (ha : PE X x (tM g W m)) (hb : PE X y (tMf g W mf)) (hs : notStar x = true) (hs2 : notStar y = true)
    (hw : swappedStores [.Tuple ts kt pt] (.Tuple [x, y] k2 p2) X.env = pure (some [n1, n2])) :
    PS X (.Assign [.Tuple ts kt pt] (.Tuple [x, y] k2 p2) pos) (tMS g W fun e s => (m e s).bindS e fun x s => (mf e s).bindS e fun l s => .nx ((e.set j (.own l)).set i (.val x)) s) := by
  refine PS.imp (ps_swap G hx (pe_tup (pa_cons ha (pa_cons hb pa_nil (star1 hs2)) (star1 hs))) hw rfl) ?_
  intro D σ H h
  obtain ⟨b, Z, S, e, s, R, h⟩ := tMS_iff.mp h
  refine stepES R h fun d s1 v Z1 S1 H1 h R1 _ dn => ?_
  refine stepFS R1 h fun l s2 q vs Z2 S2 H2 h q2 x2 hp rl n zp ns => ?_
  refine ⟨by show 2 ≤ sizeLine; decide, fun p np => ⟨p, [v, .ref q], rfl, SqT.of upd_same, rfl, ?_⟩⟩
  obtain ⟨q3, x3, zp3, ns3⟩ := layO q2 np (notTbl_tup [v, .ref q])
  have hq : q ≠ p := by intro e0; subst e0; rw [hp] at np; cases np
  have R3 := (R1.seto (i := j) q3 (x2.trans x3 q3.sz) (by rw [upd_ne hq]; exact hp) rl n zp ns).setv (i := i) (x2.den dn)
  exact h _ Z2 S2 _ R3 .refl
/-! ### name, o[a] = pair -/
theorem den_pair {w : V} {d1 d2 : D} (h : Den g Z S w (.tup [d1, d2])) : ∃ a v1 v2, w = .ref a ∧ SqT g.K Z a [v1, v2] ∧ Den g Z S v1 d1 ∧ Den g Z S v2 d2 := by
  cases h with
  | tup hz r =>
    cases r with
    | cons h1 r =>
      cases r with
      | cons h2 r =>
        cases r with
        | nil => exact ⟨_, _, _, rfl, hz, h1, h2⟩
theorem ps_unp2E (G : GoodD g k N sc W X) {i : Nat} {x : Str} {o y v : Expr} {kt : Nat} {p p2 pt pos : Pos} {m m1 m2 : M} (hn : nameIs N sc true i x = true) (ho : PE X o (tM g W m1)) (ha : PE X y (tM g W m2)) (hv : PE X v (tM g W m)) (hs : notSlice y = true) (hc : notComp v = true)
    (hw : swappedStores [.Tuple [.Name x p, .Subscript o y p2] kt pt] v X.env = pure none) :
    PS X (.Assign [.Tuple [.Name x p, .Subscript o y p2] kt pt] v pos) (tMS g W fun e s => (m e s).bindS e fun t s => match t with
      | .tup [x, z] => (m1 (e.set i (.val x)) s).bindS (e.set i (.val x)) fun y s => (m2 (e.set i (.val x)) s).bindS (e.set i (.val x)) fun k s => setIS y k z (e.set i (.val x)) s
      | _ => .bad) := by
  obtain ⟨h1, h2, h3⟩ := nameIs_of (X := X) G.hsc (fun _ => G.fn) hn
  have g1 : PG X (.Name x p) (gName i) := pg_name (by rw [G.hN]; exact G.nd) (by rw [G.hN]; exact h1) (by rw [G.hsc]; exact h2) h3
  have g2 : PG X (.Subscript o y p2) (gSub (tM g W m1) (tM g W m2) rSetL) := pg_subE ho ha set_list hs
  have gg : PG X (.Tuple [.Name x p, .Subscript o y p2] kt pt) (gTup X.K 2 (gCons (gName i) (gCons (gSub (tM g W m1) (tM g W m2) rSetL) gNil))) := pg_tup (n := 2) G.calm (pgs_cons g1 (pgs_cons g2 pgs_nil rfl) rfl) rfl rfl
  refine PS.imp (ps_asg hv gg (sole_ne hc) hw rfl) ?_
  intro D σ H h
  obtain ⟨b, Z, S, e, s, R, h⟩ := tMS_iff.mp h
  refine stepES R h fun d s1 w Z1 S1 H1 h R1 _ dn => ?_
  match d, h with
  | .tup [d1, d2], h =>
    obtain ⟨a, v1, v2, rfl, hz, dn1, dn2⟩ := den_pair dn
    refine ⟨a, [v1, v2], rfl, SqT.up hz G.toGoodX R1.sto, rfl, v1, [v2], rfl, v2, [], rfl, ?_⟩
    refine stepES (R1.setv (i := i) dn1) h fun d3 s3 v3 Z3 S3 H3 h R3 x3 dn3 => ?_
    refine stepES R3 h fun d4 s4 v4 Z4 S4 H4 h R4 x4 dn4 => ?_
    have := setIS_r R4 (x4.den dn3) dn4 (x4.den (x3.den dn2)) h
    obtain ⟨p0, xs, kk, jj, e1, e2, e3, e4, e5⟩ := this
    exact ⟨p0, xs, kk, jj, e1, e2, e3, e4, rfl, e5⟩
end
end Ms

set_option Elab.async false
set_option linter.all false
set_option autoImplicit false
set_option maxRecDepth 100000
set_option maxHeartbeats 1000000
namespace Ms
open PySem PySem.Spec HotX
open PyProof.Rows
section
variable {prog : Program} {w : World} {A : Around} {E : Value → Shared → Prop} {s : Shared}
/-- a new StopIteration -/
theorem new_stop {Q : Value → Shared → Prop} (h : ∀ (h' : Heap) (e : Addr) (o : Obj) (vs : Array Value), (∀ b u, s.heap.get? b = some u → h'.get? b = some u) → s.heap.objs.size ≤ e → h'.get? e = some o → o.cls = .type "StopIteration" → o.data = .fields vs → 2 < vs.size → Q (.ref e) { s with heap := h' }) :
    wpAny (model prog w) A (newExc (.type "StopIteration") []) Q E s := by
  simp only [newExc, newTuple]
  refine wpAny_bind (wpAny_newObj_type ?_ (by size_fits))
  refine wpAny_bind (m := firstArgMember _ _) (wpAny_of_eq (a := Value.none) (by first | rfl | (simp only [firstArgMember]; rfl)) ?_)
  refine wpAny_newObj_type ?_ (by size_fits)
  exact h _ _ _ _ (fun b u z => Heap.get?_push_of_some _ (Heap.get?_push_of_some _ z)) (by rw [Heap.size_push]; exact Nat.le_succ _) (Heap.get?_push_size _ rfl) rfl rfl (by first | (simp; done) | (simp; omega) | (simp only [Array.size_append]; simp; omega))
theorem HotAt.keep {x1 : Addr} {h h' : Heap} (hot : HotAt A x1 h) (k : ∀ o, h.get? x1 = some o → h'.get? x1 = some o) : HotAt A x1 h' := by
  obtain ⟨a, o, vs, b, c, d⟩ := hot
  exact ⟨a, o, vs, k o b, c, d⟩
theorem HotAt.lt {x1 : Addr} {h : Heap} (hot : HotAt A x1 h) : x1 < h.objs.size := by
  obtain ⟨_, o, _, b, _⟩ := hot
  exact Heap.lt_size b
/-- it is raised while the exception at x1 is handled -/
theorem stop_hot {α : Type} {x1 : Addr} {Q : α → Shared → Prop} (hot : HotAt A x1 s.heap) (hE : ∀ (h' : Heap) (e : Addr), (∀ b u, s.heap.get? b = some u → h'.get? b = some u) → (∃ o, h'.get? e = some o ∧ o.cls = .type "StopIteration") → E (.ref e) { s with heap := h' }) :
    wpAny (model prog w) A (do let e ← newExc (.type "StopIteration") []; (raiseNew e : Sem α)) Q E s := by
  refine wpAny_bind (new_stop fun h' e o vs k ge he hc hd hi => ?_)
  refine raiseNew_hot (HotAt.keep hot fun o => k _ o) (Nat.ne_of_lt (Nat.lt_of_lt_of_le (HotAt.lt hot) ge)) he hd hi ?_
  refine hE _ e (fun b u z => ?_) ⟨_, Heap.get?_update_self _ he (Obj.isFreed_of_fields (Obj.data_mapFields hd _)), (Obj.cls_mapFields ..).trans hc⟩
  rw [Heap.get?_update_other _ _ (Nat.ne_of_gt (Nat.lt_of_lt_of_le (Heap.lt_size z) ge))]
  exact k _ _ z
/-- a list's iterator at its end -/
theorem list_stop {it l x1 : Addr} {i : Nat} {items : Array Value} {Q : Value → Shared → Prop} (hot : HotAt A x1 s.heap) (nx : x1 ≠ it) (hit : s.heap.IsListIter it l i) (hl : s.heap.IsList l items) (hx : items[i]? = none)
    (hE : ∀ h' e, Heap.ExtBut it s.heap h' → (∃ o, h'.get? e = some o ∧ o.cls = .type "StopIteration") → E (.ref e) { s with heap := h' }) :
    wpAny (model prog w) A (Builtin.SmallTypes.nextOf (.ref it)) Q E s := by
  obtain ⟨o, ho, hc, hd⟩ := id hit
  obtain ⟨ol, hol, _, nl, hdl⟩ := hl
  unfold Builtin.SmallTypes.nextOf
  refine wpAny_bind (wpAny_callSpecial?_slot (name := Str.ofString "__next__") hit.typeIs slot_listiter_next (wpAny_call_entry slot_listiter_next hit.typeIs entry_listiter_next ?_ (args_listiter_next _)))
  show wpAny _ _ (field (.ref it) 0 >>= _) _ _ s
  refine wpAny_bind (wpAny_field ho hd (x := .ref l) rfl ?_)
  show wpAny _ _ (if (Value.ref l == Value.none) = true then _ else _) _ _ s
  rw [if_neg (show ¬ (Value.ref l == Value.none) = true from fun q => nomatch (show false = true from q))]
  show wpAny _ _ (field (.ref it) 1 >>= _) _ _ s
  refine wpAny_bind (wpAny_field ho hd (x := .int i 0) rfl ?_)
  show wpAny _ _ (seqItems? (.ref l) >>= _) _ _ s
  refine wpAny_bind (wpAny_seqItems hol hdl ?_)
  simp only [Int.toNat_natCast, hx]
  refine wpAny_bind (wpAny_rule (wpAny_bind (wpAny_setField ho hd (by simp) ?_)))
  refine stop_hot (x1 := x1) (HotAt.keep hot fun u z => ?_) fun h' e k he => hE h' e (fun b u nb z => k b u ?_) he
  · exact (Heap.SameBut.update ..).extBut _ _ nx z
  · exact (Heap.SameBut.update ..).extBut _ _ nb z
/-- a tuple's iterator at its end -/
theorem tup_stop {it t x1 : Addr} {i : Nat} {items : Array Value} {Q : Option Value → Shared → Prop} (hot : HotAt A x1 s.heap) (nx : x1 ≠ it) (hit : IsTupIter s.heap it t i) (ht : IsTup s.heap t items) (hx : items[i]? = none)
    (hQ : ∀ h', Heap.ExtBut it s.heap h' → Q none { s with heap := h' }) : wpAny (model prog w) A (pyNext (.ref it)) Q E s := by
  obtain ⟨o, ho, hc, hd⟩ := id hit
  obtain ⟨ol, hol, _, nl, hdl⟩ := ht
  unfold pyNext
  refine wpAny_bind (wpAny_attempt (wpAny_callSpecial?_slot (name := Str.ofString "__next__") hit.typeIs slot_tupleiter_next (wpAny_call_entry slot_tupleiter_next hit.typeIs entry_tupleiter_next ?_ (args_tupleiter_next _))))
  show wpAny _ _ (field (.ref it) 0 >>= _) _ _ s
  refine wpAny_bind (wpAny_field ho hd (x := .ref t) rfl ?_)
  show wpAny _ _ (if (Value.ref t == Value.none) = true then _ else _) _ _ s
  rw [if_neg (show ¬ (Value.ref t == Value.none) = true from fun q => nomatch (show false = true from q))]
  show wpAny _ _ (field (.ref it) 1 >>= _) _ _ s
  refine wpAny_bind (wpAny_field ho hd (x := .int i 0) rfl ?_)
  show wpAny _ _ (seqItems? (.ref t) >>= _) _ _ s
  refine wpAny_bind (wpAny_seqItems hol hdl ?_)
  simp only [Int.toNat_natCast, hx]
  refine wpAny_bind (wpAny_rule (wpAny_bind (wpAny_setField ho hd (by simp) ?_)))
  refine stop_hot (x1 := x1) (HotAt.keep hot fun u z => (Heap.SameBut.update ..).extBut _ _ nx z) fun h' e k he => ?_
  obtain ⟨o2, ho2, hc2⟩ := he
  refine wpAny_bind (wpAny_isInstance (T := "StopIteration") (b := true) ⟨o2, ho2, hc2⟩ isSubtype_stop ?_)
  exact wpAny_pure (hQ _ fun b u nb z => k b u ((Heap.SameBut.update ..).extBut _ _ nb z))
/-- a zip whose first list is at its end -/
theorem zip_stop {z TI TO i1 i2 l1 l2 x1 : Addr} {k1 : Nat} {xs : Array Value} {a b : Value} {Q : Option Value → Shared → Prop} (hot : HotAt A x1 s.heap) (nz : x1 ≠ z) (n1 : x1 ≠ i1) (D : ZipApart z TI TO i1 i2 l1 l2)
    (hz : IsZip s.heap z TI TO .none) (hTI : IsPair s.heap TI (.ref i1) (.ref i2)) (hTO : IsPair s.heap TO a b)
    (h1 : s.heap.IsListIter i1 l1 k1) (hl1 : s.heap.IsList l1 xs) (hend : xs[k1]? = none)
    (hQ : ∀ h', (∀ c o, c ≠ z → c ≠ TO → c ≠ i1 → c ≠ i2 → s.heap.get? c = some o → h'.get? c = some o) → Q none { s with heap := h' }) : wpAny (model prog w) A (pyNext (.ref z)) Q E s := by
  have hT : s.TypeIs (.ref z) "zip" := ⟨_, hz, rfl⟩
  unfold pyNext
  refine wpAny_bind (wpAny_attempt (wpAny_callSpecial?_slot (name := Str.ofString "__next__") hT F.slot_zip_next (wpAny_call_entry F.slot_zip_next hT F.entry_zip_next ?_ (F.args_zip_next_1 _))))
  show wpAny _ _ (field (.ref z) 2 >>= _) _ _ _
  refine wpAny_bind (wpAny_field hz rfl (x := .bool false) rfl ?_)
  show wpAny _ _ (field (.ref z) 3 >>= _) _ _ _
  refine wpAny_bind (wpAny_field hz rfl (x := .ref TI) rfl ?_)
  refine wpAny_bind (wpAny_seqItems hTI rfl ?_)
  show wpAny _ _ (Builtin.SmallTypes.ownedTupleIsFree (.ref z) >>= _) _ _ _
  refine wpAny_bind ?_
  unfold Builtin.SmallTypes.ownedTupleIsFree
  refine wpAny_bind (wpAny_field hz rfl (x := .none) rfl (wpAny_pure ?_))
  simp only [if_true]
  refine wpAny_bind (wpAny_rule ?_)
  refine wpAny_bind (wpAny_field hz rfl (x := .ref TO) rfl ?_)
  refine wpAny_bind (wpAny_setField_rec hz (by simp) fun h₁ hz₁ hs₁ => ?_)
  replace hz₁ : IsZip h₁ z TI TO .ellipsis := hz₁
  refine wpAny_bind ?_
  simp only [List.zipIdx_cons, List.zipIdx_nil, List.forIn_cons, List.forIn_nil]
  refine wpAny_bind (wpAny_bind (wpAny_onRaise ?_))
  show wpAny _ _ (Builtin.SmallTypes.nextOf (.ref i1) >>= _) _ _ _
  refine wpAny_bind (list_stop (x1 := x1) (HotAt.keep hot fun u q => hs₁.extBut _ _ nz q) n1 (h1.extBut hs₁.extBut D.i1z) (hl1.extBut hs₁.extBut D.l1z) hend fun h₂ e hs₂ he => ?_)
  obtain ⟨oe, hoe, hce⟩ := he
  have hz₂ : IsZip h₂ z TI TO .ellipsis := hs₂ _ _ D.i1z.symm hz₁
  have hez : e ≠ z := fun q => by subst q; rw [hz₂] at hoe; cases hoe; simp at hce
  refine wpAny_setField_rec hz₂ (by simp) fun h₃ _ hs₃ => ?_
  refine wpAny_bind (wpAny_isInstance (T := "StopIteration") (b := true) ⟨oe, hs₃.extBut _ _ hez hoe, hce⟩ isSubtype_stop ?_)
  exact wpAny_pure (hQ _ fun c o c1 _ c3 _ q => hs₃.extBut _ _ c1 (hs₂ _ _ c3 (hs₁.extBut _ _ c1 q)))
/-- a tuple unpacked -/
theorem unpack_hot {t x1 : Addr} {items : Array Value} {Q : List Value → Shared → Prop} (hot : HotAt A x1 s.heap) (ht : IsTup s.heap t items)
    (hQ : ∀ h', Heap.ExtBut s.heap.objs.size s.heap h' → Q items.toList { s with heap := h' }) : wpAny (model prog w) A (unpackItems (.ref t) items.size none) Q E s := by
  have hlt : t ≠ s.heap.objs.size := by obtain ⟨o, ho, _⟩ := ht; exact Nat.ne_of_lt (Heap.lt_size ho)
  have hlx : x1 ≠ s.heap.objs.size := Nat.ne_of_lt (HotAt.lt hot)
  unfold unpackItems
  refine wpAny_bind ?_
  unfold notIterableAtAll
  refine wpAny_bind (wpAny_specialOf ht.typeIs slot_tuple_iter.lookup (wpAny_pure ?_))
  simp only [Bool.false_eq_true, if_false]
  refine wpAny_bind (wpAny_holding (iter_tuple ht ?_))
  refine wpAny_bind (wpAny_holding (draw_tuple hlt items.size 0 _ _ ⟨_, Heap.get?_push_size _ rfl, rfl, rfl⟩ (ht.push _) (by omega) fun h₁ hit₁ hs₁ => ?_))
  rw [show List.take items.size (List.drop 0 items.toList) = items.toList from by rw [List.drop_zero]; exact List.take_of_length_le (by simp)]
  rw [if_neg (by simp)]
  refine wpAny_bind (wpAny_holding (tup_stop (x1 := x1) (HotAt.keep hot fun u z => hs₁.extBut _ _ hlx (Heap.get?_push_of_some _ z)) hlx hit₁ ((ht.push _).extBut hs₁.extBut hlt) (by simp) fun h₂ he₂ => ?_))
  simp only [Option.isSome_none, Bool.false_eq_true, if_false]
  exact wpAny_pure (hQ h₂ fun b o hb e => he₂ b o hb (hs₁.extBut b o hb (Heap.get?_push_of_some _ e)))
end
end Ms

set_option Elab.async false
set_option linter.all false
set_option autoImplicit false
set_option maxRecDepth 100000
set_option maxHeartbeats 2000000
namespace Ms
open PySem PySem.Spec L2 HotX L2H
open PyProof.Rows hiding St
/-- (a, b) = a pair, while an exception is handled -/
theorem pg_tupH {X : Cx} {es : List Expr} {kt : Nat} {pos : Pos} {t : TGs} {n : Nat} (hc : HotC X) (h : PGs X es t) (hn : (assignEach es X.env).length = n) (hst : (assignEach es X.env).findIdx? (·.1) = none) :
    PG X (.Tuple es kt pos) (gTup X.K n t) := by
  refine ⟨fun pins s σ H v u Q J r hw => ?_⟩
  obtain ⟨a, xs, rfl, hq, hl, hw⟩ := hw
  cases r
  obtain ⟨ws, rv, ht, _⟩ := J.tuple hq
  obtain ⟨x1, hot⟩ := hc.at J
  rw [assign_Tuple]
  refine wpAny_bind (wpAny_standAt ?_)
  unfold unpack
  have hs : ws.toArray.size = (assignEach es X.env).length := by rw [hn, ← hl, rv.length]; simp
  rw [hst]
  rw [← hs]
  refine wpAny_bind (wpAny_holding (unpack_hot hot ht fun h' k => ?_))
  exact h.run pins _ σ H xs _ Q (J.kept (t' := s.toks) fun b o e => k b o (Nat.ne_of_lt (Heap.lt_size e)) e) (by simpa using rv) hw
theorem five {c z a b d e : Addr} (h : c ∈ [z, a, b, d, e]) : c = z ∨ c = a ∨ c = b ∨ c = d ∨ c = e := by simpa using h
/-- the turns of a zip of two lists of one length, while an exception is handled -/
def ItzE (K : PySem.W.Frag) (a b : Addr) : It := { Itz K a b with stop := fun i H => ∃ xs ys : List V, SqL K H a xs ∧ SqL K H b ys ∧ xs.length ≤ i }
def zipAt (z TI TO i1 i2 a b : Addr) (i : Nat) (h : Heap) : Prop := IsZip h z TI TO .none ∧ IsPair h TI (.ref i1) (.ref i2) ∧ (∃ x y, IsPair h TO x y) ∧ h.IsListIter i1 a i ∧ h.IsListIter i2 b i
theorem zipAt.there {z TI TO i1 i2 a b c : Addr} {i : Nat} {h : Heap} (st : zipAt z TI TO i1 i2 a b i h) (hc : c ∈ [z, TI, TO, i1, i2]) : ∃ o, h.get? c = some o ∧ ∀ v, o.data ≠ .cell v := by
  obtain ⟨hz, hTI, ⟨x, y, hTO⟩, ⟨o1, e1, _, d1⟩, ⟨o2, e2, _, d2⟩⟩ := st
  rcases five hc with rfl | rfl | rfl | rfl | rfl
  · exact ⟨_, hz, fun v q => nomatch q⟩
  · exact ⟨_, hTI, fun v q => nomatch q⟩
  · exact ⟨_, hTO, fun v q => nomatch q⟩
  · exact ⟨o1, e1, fun v q => by rw [d1] at q; cases q⟩
  · exact ⟨o2, e2, fun v q => by rw [d2] at q; cases q⟩
theorem turn_zipH {P : Program} {w : World} {K : PySem.W.Frag} {elts : List Expr} {kt : Nat} {tpos : Pos} {a b z TI TO i1 i2 : Addr} (D : ZipApart z TI TO i1 i2 a b) :
    TurnH P w K (.Tuple elts kt tpos) (ItzE K a b) [z, TI, TO, i1, i2] z (zipAt z TI TO i1 i2 a b) where
  mem := List.mem_cons_self
  obj := fun i h st c hc => st.there hc
  keep := fun i h h' st k => by
    obtain ⟨hz, hTI, ⟨x, y, hTO⟩, h1, h2⟩ := st
    exact ⟨k z (by simp) _ hz, k TI (by simp) _ hTI, ⟨x, y, k TO (by simp) _ hTO⟩, h1.at fun o q => k i1 (by simp) o q, h2.at fun o q => k i2 (by simp) o q⟩
  item := by
    rintro X rfl rfl rfl hc i pins s σ H E J hf st ⟨xs, ys, x, y, hqx, hqy, hx, hy⟩
    have lt : ∀ c ∈ [z, TI, TO, i1, i2], c < s.heap.objs.size := fun c m => by obtain ⟨o, e, _⟩ := st.there m; exact Heap.lt_size e
    obtain ⟨hz, hTI, ⟨x0, y0, hTO⟩, h1, h2⟩ := st
    obtain ⟨us, rv, p, _⟩ := J.list hqx
    obtain ⟨us2, rv2, p2, _⟩ := J.list hqy
    obtain ⟨u, hu, ru⟩ := rv.get hx
    obtain ⟨u2, hu2, ru2⟩ := rv2.get hy
    refine wpAny_pyNext_zip_item D hz hTI hTO h1 h2 p.isList p2.isList (x := u) (y := u2) (by simpa using hu) (by simpa using hu2) fun g1 z1 TO1 a1 a2 hT hsz hk => ⟨_, rfl, ?_⟩
    refine wpAny_letOwnedTupleGo_zip (s := { s with heap := g1 }) z1 fun g2 z2 sb => ?_
    have hT2 : g2.get? s.heap.objs.size = some { cls := .type "tuple", data := .seq #[u, u2] } := (sb.2 _ (Nat.ne_of_gt (lt z (by simp)))).trans hT
    have new : ObjOk X.prog X.w (upd H s.heap.objs.size (.tup [x, y])) g2 s.heap.objs.size (.tup [x, y]) := ⟨by show 2 ≤ sizeLine; decide, [u, u2], .cons ru (.cons ru2 .nil), ⟨_, hT2, rfl, _, rfl⟩⟩
    have kk : ∀ c o, c ∉ [z, TI, TO, i1, i2] → s.heap.get? c = some o → g2.get? c = some o := fun c o nb q => by
      have nb : c ≠ z ∧ c ≠ TI ∧ c ≠ TO ∧ c ≠ i1 ∧ c ≠ i2 := by simpa using nb
      exact (sb.2 c nb.1).trans (hk c o nb.1 nb.2.2.1 nb.2.2.2.1 nb.2.2.2.2 q)
    have J1 : Inv X pins σ (upd H s.heap.objs.size (.tup [x, y])) { s with heap := g2 } := J.turnedNew (t' := s.toks) (ch := [z, TI, TO, i1, i2]) kk hf (Nat.le_refl _) new
    refine ⟨.ref s.heap.objs.size, _, J1, rfl, ⟨_, x, y, rfl, J.hok.fresh (Nat.le_refl _), rfl, fun l hl => by rw [J.list_inj hl hqx]; exact hx, fun l hl => by rw [J.list_inj hl hqy]; exact hy⟩, ⟨z2, ?_, ⟨u, u2, ?_⟩, ?_, ?_⟩, fun c m => ?_⟩
    · exact (sb.2 _ D.TIz).trans (hk _ _ D.TIz D.TITO D.TIi1 D.TIi2 hTI)
    · exact (sb.2 _ D.TOz).trans TO1
    · exact a1.at fun o q => (sb.2 _ D.i1z).trans q
    · exact a2.at fun o q => (sb.2 _ D.i2z).trans q
    · rw [upd_ne (Nat.ne_of_lt (lt c m))]
      exact (hf c m).1
  done := by
    rintro X rfl rfl rfl hc i pins s σ H E J hf st ⟨xs, ys, hqx, hqy, hend⟩
    have st0 := st
    obtain ⟨hz, hTI, ⟨x0, y0, hTO⟩, h1, h2⟩ := st
    obtain ⟨us, rv, p, _⟩ := J.list hqx
    have l1 := rv.length
    obtain ⟨p0, hp1, hp2⟩ := hc
    obtain ⟨x1, hot⟩ := HotC.at ⟨p0, hp1, hp2⟩ J
    have hx1 : x1 = p0.1 := by have := hot.1.symm.trans hp1.1; injection this with this; injection this
    have nx : ∀ c ∈ [z, TI, TO, i1, i2], x1 ≠ c := fun c m => by rw [hx1]; exact (hf c m).2.2.2.2.2 p0 (List.mem_append_left _ hp2)
    refine zip_stop hot (nx z (by simp)) (nx i1 (by simp)) D hz hTI hTO h1 p.isList (by simp; omega) fun h' hk => ⟨rfl, J.turnedL (t' := s.toks) (ch := [z, TI, TO, i1, i2]) (fun c o nb q => ?_) hf⟩
    have nb : c ≠ z ∧ c ≠ TI ∧ c ≠ TO ∧ c ≠ i1 ∧ c ≠ i2 := by simpa using nb
    exact hk c o nb.1 nb.2.2.1 nb.2.2.2.1 nb.2.2.2.2 q
  self := fun A i s Q E st h => wpAny_pyIter_zip st.1 h
def iZipE (K : PySem.W.Frag) (ta : TA) : TI := fun σ H R => ta σ H fun vs H1 => ∃ a b xs ys, vs = [.ref a, .ref b] ∧ SqL K H1 a xs ∧ SqL K H1 b ys ∧ R (ItzE K a b) H1
theorem pi_zipH {X : Cx} {e e2 : Expr} {ta : TA} {p pos tpos : Pos} {elts : List Expr} {kt : Nat} (hg : Gl X "zip") (hm : X.mg "zip" = none) (ha : PA X [e, e2] ta)
    (hs : starEach [e, e2] X.env = (false, eval e X.env) :: starEach [e2] X.env) (hpl : (backTo pos (starEach [e2] X.env)).any (·.1) = false) :
    PIH X (.Tuple elts kt tpos) (.Call (.Name "zip" p) [e, e2] [] pos) (iZipE X.K ta) := by
  refine ⟨fun pins s σ H R J h => ?_⟩
  refine Call_ (ld_blt J hg hm PyProof.Rows.boot_zip (PyProof.Rows.callWith_type1 (thn (ha.run pos pins s σ H _ J h) fun us s1 hh => ?_) hs hpl))
  obtain ⟨vs, H1, J1, r1, a, b, xs, ys, rfl, hqx, hqy, q⟩ := hh
  cases r1 with
  | cons ra rr =>
    cases rr with
    | cons rb rr =>
      cases rr; cases ra; cases rb
      obtain ⟨_, _, p1, _⟩ := J1.list hqx
      obtain ⟨_, _, p2, _⟩ := J1.list hqy
      refine call_zip_2 p1.isList p2.isList fun h' hz hTI hTO h1 h2 hsz hk => wpAny_pyIter_zip hz ?_
      refine ⟨s1.heap.objs.size + 4, [s1.heap.objs.size + 4, s1.heap.objs.size + 2, s1.heap.objs.size + 3, s1.heap.objs.size, s1.heap.objs.size + 1], _, _, H1, rfl, J1.kept (t' := s1.toks) hk, turn_zipH (PySem.W.ktu_apart s1.heap.objs.size a b p1.lt p2.lt), ⟨hz, hTI, ⟨_, _, hTO⟩, h1, h2⟩, fun c m => ?_, q⟩
      have le : s1.heap.objs.size ≤ c := by rcases five m with rfl | rfl | rfl | rfl | rfl <;> omega
      exact J1.fpOk le (J1.hok.fresh le)
end Ms

set_option Elab.async false
set_option linter.all false
set_option autoImplicit false
set_option maxRecDepth 100000
set_option maxHeartbeats 2000000
namespace Ms
open PySem PySem.Spec L2 HotX L2H
open PyProof.Rows hiding St
section
variable {X : Cx} {pins : List (Addr × Obj)} {σ : L2.St} {H : Hp} {s : Shared}
/-- a comprehension's block that still knows the exception that is handled -/
abbrev blkH (X : Cx) (p : Addr × Obj) (s : Shared) (H : Hp) (scope : Scope) (ce : PySem.Env) (fp : List Addr) : Cx := (X.blk s H scope ce fp).tr [p] fun _ _ => False
theorem blkH_hot {p : Addr × Obj} {s : Shared} {H : Hp} {scope : Scope} {ce : PySem.Env} {fp : List Addr} (h : Hot1 X.A p) : HotC (blkH X p s H scope ce fp) := ⟨p, h, List.mem_cons_self⟩
/-- name = [elt for target in iter if tests], one line, while an exception is handled -/
theorem ps_setLcH {i : Nat} {y : Str} {py : Pos} {elt tg iter : Expr} {ifs : List Expr} {scope : Scope} {own : List (Str × Nat)} {pos spos : Pos} {wi : TI} {g : TG} {tt : TT} {te : TE} {p : Addr × Obj} (hp : Hot1 X.A p) (hpn : p ∈ X.pn)
    (hN : X.N.Nodup) (hy : X.N[i]? = some y) (hyl : X.env.scope.names.lookup y = some .local) (hsw : swapsWith (.ListComp elt [⟨tg, iter, ifs, 0⟩] scope pos) (some (.Name y py)) spos.line X.env = pure true) (hi : PIH X tg iter wi) (ok : BlkOk X.N X.env.scope scope own)
    (hg : ∀ s H C cl fp, PG (blkH X p s H scope (compEnvC scope cl C X.env) fp) tg g) (ht : ∀ s H C cl fp, PTs (blkH X p s H scope (compEnvC scope cl C X.env) fp) ifs tt) (he : ∀ s H C cl fp, PE (blkH X p s H scope (compEnvC scope cl C X.env) fp) elt te)
    (hs : ∀ x, foldedSetIterable iter X.env x = pure x) :
    PS X (.Assign [.Name y py] (.ListComp elt [⟨tg, iter, ifs, 0⟩] scope pos) spos) (tAsg (tLc wi g tt te (own.map (·.2))) (gName i)) := by
  refine ⟨fun pins s σ H D J h => ?_⟩
  have hclo : ∀ z ∈ scope.names, z.2 = .free → ∃ c, X.env.cells.lookup z.1 = some c := fun z m e => by
    rcases ok.free z m e with q | q
    · exact J.ok.has _ (.inl q)
    · exact J.ok.has _ (.inr q)
  have h : tLc wi g tt te (own.map (·.2)) σ H (fun x H1 => gName i x σ H1 D.nx) := h
  rw [exec_Assign_Name_used _ _ _ _ hsw]
  refine wpAny_bind (wpAny_standAt (wpAny_bind ?_))
  show wpAny _ X.A (do let _ ← comprehension (.ListComp elt [⟨tg, iter, ifs, 0⟩] scope pos) scope X.env (firstIterPos [⟨tg, iter, ifs, 0⟩] pos) (newList []) false (eval iter X.env) (some (assign (.Name y py) X.env)); pure _) _ _ s
  refine wpAny_bind (thn (Q := fun _ s' => SP X pins D .next s') ?_ fun _ s' hq => wpAny_pure (wpAny_pure hq))
  refine wpAny_comprehension_free (use := some (assign (.Name y py) X.env)) rfl hs (closure_ok hclo) ok.kind (fun z m e => by rw [ok.uniq z m, e]) (thn (hi.run pins s σ H _ J h) fun _ s1 hx => thn hx fun _ s2 h2 => ?_)
  obtain ⟨it, fp, tn, U, H2, rfl, J2, T, st2, f2, q⟩ := h2
  refine wpAny_newObj_type (newEnv_comp ?_) (by show 0 ≤ sizeLine; decide)
  generalize hL : s2.heap.objs.size = L
  have nL : H2 L = none := J2.hok.fresh (Nat.le_of_eq hL)
  obtain ⟨VV, ⟨m0, v0⟩, turn⟩ := q L nL
  generalize e3 : ({ s2 with heap := s2.heap.push { cls := .type "list", data := .seq ([] : List Value).toArray } } : Shared) = s3
  have p3 : s3.heap = s2.heap.push { cls := .type "list", data := .seq ([] : List Value).toArray } := by rw [← e3]
  have J3 : L2.Inv X pins σ (upd H2 L (.lst [])) s3 := by
    rw [← e3]
    exact J2.laid (t' := s2.toks) (fun b o e => Heap.get?_push_of_some _ e) (Nat.le_of_eq hL) ⟨Nat.zero_le _, [], 0, .nil, by rw [← hL]; exact Heap.get?_push_size _ rfl⟩
  have f3 : ∀ b ∈ fp, FpOk X pins (upd H2 L (.lst [])) b ∧ b < s3.heap.objs.size := fun b m => by
    obtain ⟨o, e, _⟩ := T.obj _ _ st2 b m
    have lt := Heap.lt_size e
    exact ⟨⟨by rw [upd_ne (by rw [← hL]; exact Nat.ne_of_lt lt)]; exact (f2 b m).1, (f2 b m).2⟩, by rw [p3, Heap.size_push]; exact Nat.lt_succ_of_lt lt⟩
  have st3 : tn 0 s3.heap := T.keep _ _ _ st2 fun b _ o e => by rw [p3]; exact Heap.get?_push_of_some _ e
  have J4 := block_start J3 ok hN f3
  have pg := hg s3 (upd H2 L (.lst [])) s3.heap.objs.size (cellsFrom (s3.heap.objs.size + 1) scope.names (cloFrom X.env.cells scope.names [])) fp
  have pt := ht s3 (upd H2 L (.lst [])) s3.heap.objs.size (cellsFrom (s3.heap.objs.size + 1) scope.names (cloFrom X.env.cells scope.names [])) fp
  have pe := he s3 (upd H2 L (.lst [])) s3.heap.objs.size (cellsFrom (s3.heap.objs.size + 1) scope.names (cloFrom X.env.cells scope.names [])) fp
  show codeAny _ _ (.compStart (.ListComp elt [⟨tg, iter, ifs, 0⟩] scope pos) 0 (.ref it) (.ref L) (compEnvC scope (cellsFrom (s3.heap.objs.size + 1) scope.names (cloFrom X.env.cells scope.names [])) s3.heap.objs.size X.env)) (compPost (model X.prog X.w) X.A X.xe (some (assign (.Name y py) X.env)) (fun _ s' => SP X pins D .next s') (.ref L) s3.heap.objs.size) { s3 with heap := pushCells (s3.heap.push { cls := .type "dict", data := .dict #[] }) scope.names }
  have hkp : ∀ b o, s3.heap.get? b = some o → (pushCells (s3.heap.push { cls := .type "dict", data := .dict #[] }) scope.names).get? b = some o := fun b o e => pushCells_keeps _ _ _ _ (Heap.get?_push_of_some _ e)
  generalize ec : compEnvC scope (cellsFrom (s3.heap.objs.size + 1) scope.names (cloFrom X.env.cells scope.names [])) s3.heap.objs.size X.env = ce at J4 pg pt pe ⊢
  have cl : ce.locals = s3.heap.objs.size := by rw [← ec]; rfl
  have free3 : ∀ b ∈ fp, (upd H2 L (.lst [])) b = none := fun b m => (f3 b m).1.1
  generalize eH : upd H2 L (.lst []) = H3 at J3 J4 pg pt pe v0 free3 f3
  generalize e4 : ({ s3 with heap := pushCells (s3.heap.push { cls := .type "dict", data := .dict #[] }) scope.names } : Shared) = s4 at J4 ⊢
  have k4 : ∀ b o, s3.heap.get? b = some o → s4.heap.get? b = some o := fun b o e => by rw [← e4]; exact hkp b o e
  have st4 : tn 0 s4.heap := T.keep _ _ _ st3 fun b _ o e => k4 b o e
  -- the handled exception is known in the block
  obtain ⟨q1, q2, q3, q4, q5⟩ := J3.pin p (List.mem_append_left _ hpn)
  have pinB : ∀ z ∈ ([] : List (Addr × Obj)) ++ [p], s4.heap.get? z.1 = some z.2 ∧ H3 z.1 = none ∧ z.1 ≠ ce.locals ∧ z.1 ∉ (X.blk s3 H3 scope ce fp).fs ∧ ∀ v, z.2.data ≠ .cell v := fun z m => by
    have ez : z = p := by simpa using m
    rw [ez]
    refine ⟨k4 _ _ q1, q2, by rw [cl]; exact Nat.ne_of_lt (Heap.lt_size q1), fun m2 => ?_, q5⟩
    rcases List.mem_cons.mp (J3.stkSub _ m2) with e | m2
    · exact q3 e
    · exact q4 m2
  have J4p : L2.Inv (X.blk s3 H3 scope ce fp) [p] (wipe σ (own.map (·.2))) H3 s4 := { J4 with pin := pinB }
  have J5 : L2.Inv (blkH X p s3 H3 scope ce fp) [] (wipe σ (own.map (·.2))) H3 s4 := J4p.toTry _
  have fresh_fp : ∀ b ∈ fp, p.1 ≠ b := fun b m => (f3 b m).1.2.2.2.2.2 p (List.mem_append_left _ hpn)
  have stat : ∀ {σ' : L2.St} {H' : Hp} {s' : Shared}, L2.Inv (blkH X p s3 H3 scope ce fp) [] σ' H' s' → (∀ b ∈ fp, H' b = none) → ∀ b ∈ fp, FpOk (blkH X p s3 H3 scope ce fp) [] H' b := fun {σ' H' s'} J' nb b m =>
    ⟨nb b m, (J'.ok.exf b m).1, J'.ok.exfs b m, .inl m, fun x c e => (J'.ok.exf b m).2 x c e, fun z mz => by
      have ez : z = p := by simpa using (show z ∈ [p] ++ ([] : List (Addr × Obj)) from mz)
      rw [ez]; exact fresh_fp b m⟩
  have hotB : HotC (blkH X p s3 H3 scope ce fp) := blkH_hot hp
  have loop : codeAny (model X.prog X.w) X.A (.compLoop (.ListComp elt [⟨tg, iter, ifs, 0⟩] scope pos) 0 (.ref it) (.ref L) ce) (compPost (model X.prog X.w) X.A X.xe (some (assign (.Name y py) X.env)) (fun _ s' => SP X pins D .next s') (.ref L) s3.heap.objs.size) s4 := by
    refine compLoop_any (fun n s' => ∃ j H', L2.Inv (blkH X p s3 H3 scope ce fp) [] (wipe σ (own.map (·.2))) H' s' ∧ tn j s'.heap ∧ (∀ b ∈ fp, H' b = none) ∧ VV j n H') ?_ m0 ⟨0, H3, J5, st4, free3, v0⟩
    rintro n s5 ⟨j, H5, I5, st5, n5, v5⟩
    rcases turn j n H5 v5 with ⟨stop, qq⟩ | ⟨go, Nx, hNx, step⟩
    · refine thnF (T.done (blkH X p s3 H3 scope ce fp) rfl rfl rfl hotB j [] s5 _ H5 (fun _ _ => False) I5 (stat I5 n5) st5 stop) ?_
      rintro _ s6 ⟨rfl, I6⟩
      have I7 : L2.Inv X pins σ H5 s6 := J3.call' (ch := fp) I6.os I6.base I6.hok I6.bare fun b m => ⟨(f3 b m).1.2.2.2.1, (f3 b m).1.2.1, (f3 b m).1.2.2.2.2.1, (f3 b m).1.2.2.2.2.2⟩
      have nC : H5 s3.heap.objs.size = none := by
        have z : H5 ce.locals = none := I6.free
        rw [cl] at z
        exact z
      obtain ⟨m, hn, _⟩ := I6.loc
      have hn : s6.heap.Ns ce.locals m := hn
      rw [cl] at hn
      obtain ⟨r0, r1, r2, r3, r4, r5⟩ := J3.fpOk (Nat.le_refl _) nC
      -- the name takes the list
      show wpAny _ _ (assign (.Name y py) X.env (.ref L)) _ _ _
      refine wpAny_assign_Name (store_ok2 (v := V.ref L) I7 hN hy (.inl hyl) rfl (fun s8 I8 ⟨a, sb, ha⟩ => ⟨m, hn.sameBut sb ?_, fun h9 sb9 => ?_⟩) (.inr hyl))
      · rcases ha with z | z
        · rw [z]; exact r1
        · exact fun e => r4 y a z e.symm
      · exact ⟨_, H5, I8.turned (t' := s8.toks) (fun b o nb e => (sb9.2 b nb).trans e) r0 r1 r3 r4 r5, qq⟩
    · refine thnF (T.item (blkH X p s3 H3 scope ce fp) rfl rfl rfl hotB j [] s5 _ H5 (fun _ _ => False) I5 (stat I5 n5) st5 go) ?_
      rintro _ s6 ⟨u, rfl, h6⟩
      refine thnF h6 fun _ s7 ⟨x, H7, I7, r7, y7, st7, n7⟩ => ?_
      refine thnF (pg.run _ s7 _ H7 x u _ (I7.pinned (stat I7 n7) (T.obj _ _ st7)) r7 (step x H7 y7)) fun _ s8 ⟨σ8, H8, I8, hw8, q8⟩ => ?_
      refine thnF (pt.run _ s8 σ8 H8 _ I8 q8) fun b s9 ⟨H9, I9, q9⟩ => ?_
      have fin : ∀ {s' : Shared} {H' : Hp}, L2.Inv (blkH X p s3 H3 scope ce fp) ([] ++ pinsAt fp s7.heap) σ8 H' s' → Nx H' → ∃ m, m < n ∧ ∃ j H', L2.Inv (blkH X p s3 H3 scope ce fp) [] (wipe σ (own.map (·.2))) H' s' ∧ tn j s'.heap ∧ (∀ b ∈ fp, H' b = none) ∧ VV j m H' := fun {s' H'} I' nx => by
        obtain ⟨m', lt, v'⟩ := hNx H' nx
        have kept : ∀ b ∈ fp, ∀ o, s7.heap.get? b = some o → s'.heap.get? b = some o ∧ H' b = none := fun b m o e => by
          have z := I'.pin (b, o) (List.mem_append_right _ (List.mem_append_right _ (mem_pinsAt m e)))
          exact ⟨z.1, z.2.1⟩
        refine ⟨m', lt, j + 1, H', (I'.unpinned (pins := [])).weak (by rw [← hw8, wipe_length]) (fun j' v e => ?_), T.keep _ _ _ st7 fun b m o e => (kept b m o e).1, fun b m => ?_, v'⟩
        · rw [← hw8] at e
          exact (wipe_some e).1
        · obtain ⟨o, e, _⟩ := T.obj _ _ st7 b m
          exact (kept b m o e).2
      cases b with
      | false =>
        simp only [Bool.false_eq_true, if_false] at q9 ⊢
        exact fin I9 q9
      | true =>
        simp only [if_true] at q9 ⊢
        refine thnF (pe.run _ s9 σ8 H9 _ I9 q9) fun _ s10 ⟨yv, H10, I10, r10, acc, hD, hz, nx⟩ => ?_
        exact app_ok (X := blkH X p s3 H3 scope ce fp) I10 hD hz r10 fun s11 I11 => fin I11 nx
  exact codeAny_compStart_list loop (T.self X.A 0 _ _ _ st4 loop)
end
end Ms

set_option Elab.async false
set_option linter.all false
set_option autoImplicit false
set_option maxRecDepth 100000
set_option maxHeartbeats 2000000
namespace Ms
open PySem PySem.Spec L2 HotX L2H SX
open PyProof.Rows hiding St
/-! ### a def that is called with the exception that is handled -/
/-- an exception of the class D without a dict of its own -/
structure OfCls (p : Addr × Obj) (D : Value) : Prop where
  cls : p.2.cls = D
  dict : p.2.dict = none
  dat : ∃ vs, p.2.data = .fields vs
structure FnW (P : Program) (w : World) (K : PySem.W.Frag) (mg : Str → Option Value) (base : Heap) (CX : CXT) (k : Nat) (f : Addr) (fd : FuncData) (ps : List Str) (D : Value) (v : V) : Prop where
  run : ∀ (A : Around) (outer : List PySem.Env) (s : Shared) (H : Hp) (args : Args) (Q : VK) (E : XK) (p : Addr × Obj), RoomH k A → Hot1 A p → OfCls p D → PinOk outer H s p → Env0 P w K mg base A outer s H → BindsTo s fd args (ps.zip [.ref p.1]) →
    (∀ H', HLe H H' → Q v H') → codeAny (model P w) A (.call (.ref f) args) (CR CX outer P w H s Q E) s
theorem fnw_of {CX : CXT} {P : Program} {w : World} {K : PySem.W.Frag} {mg : Str → Option Value} {base : Heap} {k : Nat} {f : Addr} {name qual : Str} {params : Arguments} {body : List Stmt} {scope : Scope} {dV kV doc pm cdv ct oc : Value} {an od : Option Addr}
    {osl : Array (Option Value)} {N ps : List Str} {D : Value} {v : V} (lk : K.lookup f = some ⟨oc, od, .func (PySem.W.fnOf name qual params body scope dV kV doc pm an cdv ct), osl⟩) (hcd : PySem.W.codeIn K cdv qual = true) (S : FnScope N ps scope) (h1 : ps.length = 1)
    (hb : ∀ (A : Around) (outer : List PySem.Env) (s : Shared) (H : Hp) (Q : VK) (E : XK) (p : Addr × Obj), Hot1 A p → OfCls p D → (∀ H', HLe H H' → Q v H') → ∃ t, PSs (cxH CX P w K mg base N qual scope f cdv A outer s H E p) body t ∧ t { nx := fun _ H' => Q .non H', rt := Q } (L2.start N [.ref p.1]) H) :
    FnW P w K mg base CX (k + 1) f (PySem.W.fnOf name qual params body scope dV kV doc pm an cdv ct) ps D v := by
  refine ⟨fun A outer s H args Q E p hr hot hd hpin e0 hbd hq => ?_⟩
  have kx : K.In s.heap := e0.mod.kin.keeps fun b o e => (e0.bs b o e).1
  have lim : s.heap.NoLimit := e0.mod.nolimit.keeps fun b o e => (e0.bs b o e).1
  have hkind : ∀ y ∈ ps.zip [Value.ref p.1], scope.names.lookup y.1 = some .local ∨ (scope.names.lookup y.1 = some .cell ∧ ((cellsFrom (s.heap.objs.size + 1) scope.names []).lookup y.1).isSome = true) := fun ⟨n, _⟩ m => by
    rcases S.par n (List.of_mem_zip m).1 with q | q
    · exact .inl q
    · exact .inr ⟨q, PySem.W.cellsFrom_some _ _ _ (.inl q)⟩
  refine codeAny_call_function hr.depth (kx _ _ lk) rfl S.co S.gen rfl (PySem.W.codeRec_of kx hcd) (hbd _ _ _ _ ?_)
  refine wpAny_newFunctionEnv_cells S.kind hkind fun env he s1 x => ?_
  subst he
  refine ⟨lim.keeps x.toInCall.keep, codeAny_func ?_⟩
  obtain ⟨t, ht, h⟩ := hb A outer s H Q E p hot hd hq
  have J : L2.Inv (cxH CX P w K mg base N qual scope f cdv A outer s H E p) [] (L2.start N [.ref p.1]) H s1 := inv_startH S hpin e0 (by rw [h1]; rfl) (.cons rfl .nil) x
  refine wpAny_mono (ht.run [] s1 _ H _ J h) (fun fl s' hs => ?_) fun _ _ z => z
  cases fl with
  | ret u =>
    obtain ⟨z, σ', H', J, rv, q⟩ := hs
    exact ⟨z, H', J.os, J.bare, J.base, J.hok, rv, q⟩
  | next =>
    obtain ⟨σ', H', J, q⟩ := hs
    exact ⟨.non, H', J.os, J.bare, J.base, J.hok, rfl, q⟩
  | brk => obtain ⟨_, _, _, q⟩ := hs; exact q.elim
  | cont => obtain ⟨_, _, _, q⟩ := hs; exact q.elim
section
variable {X : Cx} {CX : CXT} {k : Nat} {f : Addr} {fd : FuncData} {ps : List Str} {D : Value} {v : V}
/-- its call: word(caught) -/
theorem pe_callW {x : Str} {q pos : Pos} {e : Expr} {i : Nat} {p : Addr × Obj} (F : FnW X.prog X.w X.K X.mg X.base CX k f fd ps D v) (h1 : ps.length = 1) (hr : RoomH k X.A) (hot : Hot1 X.A p) (hp : p ∈ X.pn) (hd : OfCls p D) (hg : Gl X x) (hm : X.mg x = some (.ref f)) (hk : PySem.W.keepIn X.K (.ref f) = true) (hb : L2.Binds X.K fd ps [])
    (hx : ∀ σ, PassesAt CX X σ fun _ _ _ => False) (he : PE X e (tVar i)) (hdb : (x == ("__debug__" : Str)) = false) (hs : notStar e = true) :
    PE X (.Call (.Name x q) [e] [] pos) (fun σ H Q => σ[i]? = some (some (.ref p.1)) ∧ ∀ H', HLe H H' → Q v H') := by
  refine ⟨fun pins s σ H Q J h => ?_⟩
  obtain ⟨h0, h⟩ := h
  refine wpAny_Call_Name_kw (ld_glob J hg hm ?_ hdb)
  have ha : PA X [e] (tCons (tVar i) tNil) := pa_cons he pa_nil (star1 hs)
  refine PySem.W.callWith_K (h₀ := X.base) J.ok.mod.kin hk (thn (ha.run pos pins s σ H (fun vs H1 => vs = [V.ref p.1] ∧ H1 = H) J ⟨_, h0, rfl, rfl⟩) fun us s1 hh => ?_) (star1 hs) rfl
  obtain ⟨vs, H1, J1, r, rfl, rfl⟩ := hh
  cases r with
  | cons r rr =>
    cases rr; cases r
    refine ⟨J1.kIn, ?_⟩
    have b := hb s1 [.ref p.1] J1.kIn (by rw [List.append_nil]; exact h1.symm)
    rw [List.append_nil] at b
    have P1 := J1.pin p (List.mem_append_left _ hp)
    have hpin : PinOk X.stack H1 s1 p := ⟨P1.1, P1.2.1, fun hm => (List.mem_cons.mp (J1.stkSub p.1 hm)).elim P1.2.2.1 P1.2.2.2.1, P1.2.2.2.2⟩
    refine wpAny_call (codeAny_mono (F.run X.A X.stack s1 H1 ⟨[.ref p.1], []⟩ Q (fun _ _ _ => False) p hr hot hd hpin J1.env0 b h) fun r s' hq => ?_)
    cases r with
    | error e => exact hx σ pins H1 s1 e s' J1 hq
    | ok fl =>
      cases fl with
      | ret u => exact J1.after hq
      | next => exact hq.elim
      | brk => exact hq.elim
      | cont => exact hq.elim
end
/-! ### isinstance of the exception that is handled -/
section
variable {X : Cx} {p : Addr × Obj} {D : Addr}
theorem call_isW (hpn : p ∈ X.pn) (C : ExcC X.K D) (hd : OfCls p (.ref D)) : CallR X (.builtin "isinstance") (rIsE X.K D p.1) := by
  intro pins s σ H xs us Q J r h
  obtain ⟨c, cv, b, rfl, hcv, e, q⟩ := h
  cases r with
  | cons rx rr =>
    cases rr with
    | cons rt rr =>
      cases rr; cases rx
      have ec := hcv _ rt
      subst ec
      obtain ⟨hget, _⟩ := J.pin p (List.mem_append_left _ hpn)
      have at' : PySem.W.InstAt s.heap p.1 p.2 D none := by
        obtain ⟨a, ⟨oc, od, oda, osl⟩⟩ := p
        obtain ⟨h1, h2, vs, h3⟩ := hd
        dsimp only at h1 h2 h3
        subst h1 h2 h3
        exact ⟨hget, rfl, rfl, trivial⟩
      exact PySem.W.kia_one (PySem.W.handS_kitx_exc C.hg C.hk C.hs C.hd C.ha C.hn C.ht C.hm) J.kIn at' e (fun z => nomatch z) fun tk => ⟨.bl b, H, J.kept (t' := tk) fun _ _ z => z, rfl, q⟩
/-- what stands in a def like _law_word -/
structure HotK (X : Cx) (p : Addr × Obj) (D : Addr) (cn : Str) : Prop where
  hot : Hot1 X.A p
  hpn : p ∈ X.pn
  cc : ExcC X.K D
  oc : OfCls p (.ref D)
  gi : Gl X "isinstance"
  mi : X.mg "isinstance" = none
  n0 : X.N[0]? = some cn
  v0 : Vis X.env.scope cn
  d0 : (cn == ("__debug__" : Str)) = false
  d1 : (cn == ("__classdict__" : Str)) = false
/-- slot 0 holds it -/
def holds (p : Addr × Obj) (σ : L2.St) : Prop := σ[0]? = some (some (.ref p.1))
variable {cn : Str} (G : HotK X p D cn)
include G
theorem pe_caught {pos : Pos} : PE X (.Name cn pos) (tVar 0) := pe_var G.n0 G.v0 G.d0 G.d1
theorem pe_isC {x : Str} {A : Addr} {b : Bool} {p1 p2 p3 pos : Pos} (hg : Gl X x) (hm : X.mg x = some (.ref A)) (hk : PySem.W.kitOne X.K (.ref D) (.ref A) = some b) (hdb : (x == ("__debug__" : Str)) = false) :
    PE X (.Call (.Name "isinstance" p1) [.Name cn p2, .Name x p3] [] pos) (fun σ H Q => holds p σ ∧ Q (.bl b) H) := by
  refine PE.imp (pe_callB (call_isW G.hpn G.cc G.oc) G.gi G.mi boot_isinstance (pa_cons (pe_caught G) (pa_cons (pe_glob (v := .ref A) hg hm rfl hdb) pa_nil rfl) rfl) (by decide) (by decide) rfl rfl) ?_
  rintro σ H Q ⟨h0, h⟩
  exact ⟨_, h0, .ref A, .ref A, b, rfl, fun u r => r, hk, h⟩
theorem pe_isVE {b : Bool} {p1 p2 p3 pos : Pos} (hg : Gl X "ValueError") (hm : X.mg "ValueError" = none) (hk : PySem.W.kitOne X.K (.ref D) (.type "ValueError") = some b) :
    PE X (.Call (.Name "isinstance" p1) [.Name cn p2, .Name "ValueError" p3] [] pos) (fun σ H Q => holds p σ ∧ Q (.bl b) H) := by
  refine PE.imp (pe_callB (call_isW G.hpn G.cc G.oc) G.gi G.mi boot_isinstance (pa_cons (pe_caught G) (pa_cons (pe_bltn (v := .ty "ValueError") hg hm (by decide +kernel) rfl (by decide) (by decide)) pa_nil rfl) rfl) (by decide) (by decide) rfl rfl) ?_
  rintro σ H Q ⟨h0, h⟩
  exact ⟨_, h0, .ty "ValueError", .type "ValueError", b, rfl, fun u r => r, hk, h⟩
omit G
/-- such truths, one after another -/
def tBs (p : Addr × Obj) (bs : List Bool) : TA := fun σ H Q => holds p σ ∧ Q (bs.map V.bl) H
theorem pa_bs0 : PA X [] (tBs p []) := PA.imp pa_nil fun σ H Q h => h.2
theorem pa_bs {e : Expr} {es : List Expr} {b : Bool} {bs : List Bool} (h : PE X e (fun σ H Q => holds p σ ∧ Q (.bl b) H)) (r : PA X es (tBs p bs)) (hs : notStar e = true) : PA X (e :: es) (tBs p (b :: bs)) := by
  refine PA.imp (pa_cons h r (star1 hs)) ?_
  rintro σ H Q ⟨h0, h⟩
  exact ⟨h0, h0, h⟩
end
end Ms

set_option Elab.async false
set_option linter.all false
set_option autoImplicit false
set_option maxRecDepth 100000
set_option maxHeartbeats 2000000
namespace Ms
open PySem PySem.Spec L2 HotX L2H SX
open PyProof.Rows hiding St
/-- those that have a true by their side -/
def sel {α : Type} : List α → List Bool → List α
  | x :: xs, true :: bs => x :: sel xs bs
  | _ :: xs, false :: bs => sel xs bs
  | _, _ => []
theorem sel_take {α : Type} : ∀ (xs : List α) (bs : List Bool) (i : Nat) (x : α) (b : Bool), xs[i]? = some x → bs[i]? = some b → sel (xs.take (i + 1)) (bs.take (i + 1)) = sel (xs.take i) (bs.take i) ++ (if b = true then [x] else [])
  | [], _, _, _, _, h, _ => by simp at h
  | _ :: _, [], _, _, _, _, h => by simp at h
  | y :: ys, c :: cs, 0, x, b, h1, h2 => by
    simp at h1 h2; subst h1 h2
    cases c <;> simp [sel]
  | y :: ys, c :: cs, i + 1, x, b, h1, h2 => by
    have := sel_take ys cs i x b (by simpa using h1) (by simpa using h2)
    cases c <;> simp only [List.take_succ_cons, sel, this, List.cons_append]
theorem sel_len {α : Type} : ∀ (xs : List α) (bs : List Bool), (sel xs bs).length ≤ xs.length
  | [], _ => by simp [sel]
  | _ :: _, [] => by simp [sel]
  | _ :: xs, true :: bs => by simp [sel, sel_len xs bs]
  | _ :: xs, false :: bs => by simp only [sel, List.length_cons]; exact Nat.le_succ_of_le (sel_len xs bs)
section
variable {X : Cx} {p : Addr × Obj} {bs : List Bool} {ws : List Str}
/-- a new list of these -/
def NewL (xs : List V) (H : Hp) (Q : VK) : Prop := ∀ L H', HLe H H' → H' L = some (.lst xs) → Q (.ref L) H'
theorem NewL.of {xs : List V} {H : Hp} {Q : VK} (h : NewL xs H Q) : ∀ q, H q = none → Q (.ref q) (upd H q (.lst xs)) := fun q n => h q _ (upd_le n) upd_same
theorem pe_bl0 {es : List Expr} {pos : Pos} (h : PA X es (tBs p bs)) (hl : bs.length ≤ 1000) : PE X (.List es pos) (fun σ H Q => holds p σ ∧ NewL (bs.map V.bl) H Q) := by
  refine PE.imp (pe_lst h) ?_
  rintro σ H Q ⟨h0, h⟩
  exact ⟨h0, by rw [List.length_map]; exact Nat.le_trans hl (by decide), h.of⟩
/-- slot i holds a list of these -/
def hasL (i : Nat) (xs : List V) (σ : L2.St) (H : Hp) : Prop := ∃ T, σ[i]? = some (some (.ref T)) ∧ H T = some (.lst xs)
theorem pe_bl1 {i : Nat} {nm : Str} {ys : List V} {es : List Expr} {pos p1 p2 : Pos} (hn : PE X (.Name nm p1) (tVar i)) (h : PA X es (tBs p bs)) (hl : ys.length + bs.length ≤ 1000) :
    PE X (.BinOp (.Name nm p1) .Add (.List es p2) pos) (fun σ H Q => holds p σ ∧ hasL i ys σ H ∧ NewL (ys ++ bs.map V.bl) H Q) := by
  refine PE.imp (pe_op op_cat hn (pe_bl0 h (by omega))) ?_
  rintro σ H Q ⟨h0, ⟨T, h1, h2⟩, h⟩
  refine ⟨_, h1, h0, fun L H' le hL => ?_⟩
  refine ⟨T, L, ys, bs.map V.bl, rfl, rfl, le _ _ h2, hL, by rw [List.length_map]; exact Nat.le_trans hl (by decide), fun q n => h q _ (le.trans (upd_le n)) upd_same⟩
theorem pe_sp0 {a b : Str} {j1 j2 : Nat} {p1 p2 ap pos : Pos} (hs : Txt.split a b = ws) (hb : (b.length == 0) = false) (ha : a.length + 2 ≤ sizeLine) (hline : (ap.endLine == pos.line) = true) :
    PE X (.Call (.Attribute (.Constant (.str a) j1 p1) "split" ap) [.Constant (.str b) j2 p2] [] pos) (fun _ H Q => NewL (ws.map V.str) H Q) := by
  refine PE.imp (pe_split pe_str pe_str rfl rfl hline) ?_
  intro σ H Q h
  exact ⟨⟨a, rfl⟩, a, b, rfl, rfl, hb, ha, by rw [hs]; exact h.of⟩
theorem pe_sp1 {i : Nat} {nm : Str} {ys : List V} {a b : Str} {j1 j2 : Nat} {p0 p1 p2 p3 ap pos : Pos} (hn : PE X (.Name nm p0) (tVar i)) (hs : Txt.split a b = ws) (hb : (b.length == 0) = false) (ha : a.length + 2 ≤ sizeLine) (hline : (ap.endLine == pos.line) = true) (hl : ys.length + ws.length ≤ 1000) :
    PE X (.BinOp (.Name nm p0) .Add (.Call (.Attribute (.Constant (.str a) j1 p1) "split" ap) [.Constant (.str b) j2 p2] [] pos) p3) (fun σ H Q => hasL i ys σ H ∧ NewL (ys ++ ws.map V.str) H Q) := by
  refine PE.imp (pe_op op_cat hn (pe_sp0 hs hb ha hline)) ?_
  rintro σ H Q ⟨⟨T, h1, h2⟩, h⟩
  refine ⟨_, h1, fun L H' le hL => ?_⟩
  exact ⟨T, L, ys, ws.map V.str, rfl, rfl, le _ _ h2, hL, by rw [List.length_map]; exact Nat.le_trans hl (by decide), fun q n => h q _ (le.trans (upd_le n)) upd_same⟩
/-- name = such a list -/
theorem ps_nl {C : L2.St → Hp → Prop} {xs : List V} {i : Nat} {nm : Str} {e : Expr} {p1 pos : Pos} (hN : X.N.Nodup) (hi : X.N[i]? = some nm) (hx : X.env.scope.names.lookup nm = some .local) (he : PE X e (fun σ H Q => C σ H ∧ NewL xs H Q)) (hc : notComp e = true) :
    PS X (.Assign [.Name nm p1] e pos) (fun D σ H => C σ H ∧ ∀ L H', HLe H H' → H' L = some (.lst xs) → D.nx (σ.set i (some (.ref L))) H') := by
  refine PS.imp (ps_set hN hi (.inl hx) he (noSwap hc) (.inr hx)) ?_
  rintro D σ H ⟨h0, h⟩
  exact ⟨h0, fun L H' le hL => h L H' le hL⟩
/-- found = [word for word, so in zip(words, told) if so] -/
theorem ps_sel {sc : Scope} {scope : Scope} {own : List (Str × Nat)} {iF iW iT i1 i2 : Nat} {nf nw nt n1 n2 : Str} {p0 pf pz pos p1 p2 p3 p4 p5 p6 p7 spos : Pos} {kt : Nat} (hp : Hot1 X.A p) (hpn : p ∈ X.pn) (hsc : X.env.scope = sc)
    (hN : X.N.Nodup) (hF : X.N[iF]? = some nf) (hFl : X.env.scope.names.lookup nf = some .local) (hsw : swapsWith (.ListComp (.Name n1 p1) [⟨.Tuple [.Name n1 p2, .Name n2 p3] kt p4, .Call (.Name "zip" pz) [.Name nw p5, .Name nt p6] [] pos, [.Name n2 p7], 0⟩] scope pf) (some (.Name nf p0)) spos.line X.env = pure true)
    (ok : BlkOk X.N X.env.scope scope own) (ho : own.map (·.2) = [i1, i2]) (h12 : i1 ≠ i2) (hz : Gl X "zip") (hmz : X.mg "zip" = none) (hw : PE X (.Name nw p5) (tVar iW)) (ht : PE X (.Name nt p6) (tVar iT))
    (h1 : X.N[i1]? = some n1) (h2 : X.N[i2]? = some n2) (hl1 : i1 < X.N.length) (hl2 : i2 < X.N.length)
    (hs1 : (relS scope X.env.scope).names.lookup n1 = some .local) (hs2 : (relS scope X.env.scope).names.lookup n2 = some .local) (hd1 : (n1 == ("__debug__" : Str)) = false) (hd2 : (n2 == ("__debug__" : Str)) = false) (hc1 : (n1 == ("__classdict__" : Str)) = false) (hc2 : (n2 == ("__classdict__" : Str)) = false) (hlen : ws.length = bs.length) (hmax : ws.length ≤ 1000) :
    PS X (.Assign [.Name nf p0] (.ListComp (.Name n1 p1) [⟨.Tuple [.Name n1 p2, .Name n2 p3] kt p4, .Call (.Name "zip" pz) [.Name nw p5, .Name nt p6] [] pos, [.Name n2 p7], 0⟩] scope pf) spos)
      (fun D σ H => hasL iW (ws.map V.str) σ H ∧ hasL iT (bs.map V.bl) σ H ∧ σ.length = X.N.length ∧ ∀ L H', HLe H H' → H' L = some (.lst ((sel ws bs).map V.str)) → D.nx (σ.set iF (some (.ref L))) H') := by
  refine PS.imp (ps_setLcH hp hpn hN hF hFl hsw (pi_zipH hz hmz (pa_cons hw (pa_cons ht pa_nil rfl) rfl) rfl rfl) ok (g := gTup X.K 2 (gCons (gName i1) (gCons (gName i2) gNil))) (tt := fun σ H Q => ∃ b, σ[i2]? = some (some (.bl b)) ∧ Q b H) (te := tVar i1) ?_ ?_ ?_ (fun x => rfl)) ?_
  · intro s H C cl fp
    exact pg_tupH (n := 2) (blkH_hot hp) (pgs_cons (pg_name hN h1 (.inl hs1) (.inr hs1)) (pgs_cons (pg_name hN h2 (.inl hs2) (.inr hs2)) pgs_nil rfl) rfl) rfl rfl
  · intro s H C cl fp
    refine pts_one (PT.imp (pt_val (pe_var h2 (.inl hs2) hd2 hc2) fun _ => rfl) ?_)
    rintro σ H Q ⟨b, e, q⟩
    exact ⟨_, e, b, rfl, q⟩
  · intro s H C cl fp
    exact pe_var h1 (.inl hs1) hd1 hc1
  · rintro D σ H ⟨⟨A, a1, a2⟩, ⟨B, b1, b2⟩, hσ, h⟩
    refine ⟨_, a1, _, b1, A, B, _, _, rfl, .inl (.inl a2), .inl (.inl b2), fun L nL => ?_⟩
    rw [ho]
    have le0 : HLe H (upd H L (.lst [])) := upd_le nL
    refine ⟨fun i m H' => (∀ a o, H a = some o → H' a = some o) ∧ H' L = some (.lst ((sel (ws.take i) (bs.take i)).map V.str)) ∧ i + m = ws.length, ⟨ws.length, le0, by simp only [List.take_zero]; exact upd_same, by omega⟩, ?_⟩
    rintro i m H' ⟨le, hL, him⟩
    by_cases c : i < ws.length
    · refine .inr ⟨⟨_, _, .str ws[i], .bl (bs[i]'(by omega)), .inl (.inl (le _ _ a2)), .inl (.inl (le _ _ b2)), by simp [c], by simp⟩, fun H2 => (∀ a o, H a = some o → H2 a = some o) ∧ H2 L = some (.lst ((sel (ws.take (i + 1)) (bs.take (i + 1))).map V.str)), fun H2 q => ⟨m - 1, by omega, q.1, q.2, by omega⟩, ?_⟩
      rintro _ _ ⟨T, x, y, rfl, nT, rfl, ex, ey⟩
      have ex := ex _ (.inl (.inl (le _ _ a2)))
      have ey := ey _ (.inl (.inl (le _ _ b2)))
      simp only [List.getElem?_map, List.getElem?_eq_getElem c, Option.map_some, Option.some.injEq] at ex
      have c2 : i < bs.length := by omega
      simp only [List.getElem?_map, List.getElem?_eq_getElem c2, Option.map_some, Option.some.injEq] at ey
      have nLT : L ≠ T := fun e => by rw [e, nT] at hL; cases hL
      refine ⟨T, [x, y], rfl, .inl (.inl upd_same), rfl, x, [y], rfl, y, [], rfl, rfl, ?_⟩
      subst ex ey
      have wl : ∀ vs, (wipe σ vs).length = σ.length := fun vs => wipe_length σ vs
      refine ⟨?_, bs[i], ?_, ?_⟩
      · apply List.ext_getElem?
        intro j
        rw [wipe_at, wipe_at]
        by_cases m : j ∈ [i1, i2]
        · rw [if_pos m, if_pos m]
          by_cases lt : j < σ.length
          · rw [List.getElem?_eq_getElem (by simpa [wl] using lt), List.getElem?_eq_getElem lt]; rfl
          · rw [List.getElem?_eq_none_iff.mpr (by simp [wl]; omega), List.getElem?_eq_none_iff.mpr (by omega)]
        · rw [if_neg m, if_neg m]
          have m : j ≠ i1 ∧ j ≠ i2 := by simpa using m
          rw [List.getElem?_set_ne (Ne.symm m.2), List.getElem?_set_ne (Ne.symm m.1), wipe_at, if_neg (by simpa using m)]
      · exact List.getElem?_set_self (by rw [List.length_set, wl, hσ]; exact hl2)
      · have st := sel_take ws bs i ws[i] bs[i] (List.getElem?_eq_getElem c) (List.getElem?_eq_getElem c2)
        have kL : upd H' T (.tup [.str ws[i], .bl bs[i]]) L = some (.lst ((sel (ws.take i) (bs.take i)).map V.str)) := by rw [upd_ne nLT]; exact hL
        have kle : ∀ a o, H a = some o → upd H' T (.tup [.str ws[i], .bl bs[i]]) a = some o := fun a o e => upd_le nT a o (le a o e)
        cases cb : bs[i] with
        | false =>
          rw [cb] at st kL kle
          simp only [Bool.false_eq_true, if_false, List.append_nil] at st ⊢
          exact ⟨kle, by rw [st]; exact kL⟩
        | true =>
          rw [cb] at st kL kle
          simp only [if_true] at st ⊢
          refine ⟨_, (List.getElem?_set_ne (Ne.symm h12)).trans (List.getElem?_set_self (by rw [wl, hσ]; exact hl1)), _, kL, ?_, fun a o e => ?_, ?_⟩
          · rw [List.length_map]
            refine Nat.lt_of_le_of_lt (sel_len _ _) ?_
            rw [List.length_take]
            have : sizeLine = 16777216 := by decide
            omega
          · by_cases q : a = L
            · subst q; rw [nL] at e; cases e
            · rw [upd_ne q]; exact kle a o e
          · rw [st, List.map_append]; exact upd_same
    · refine .inl ⟨⟨_, _, .inl (.inl (le _ _ a2)), .inl (.inl (le _ _ b2)), by simp; omega⟩, ?_⟩
      rw [List.take_of_length_le (by omega), List.take_of_length_le (by omega)] at hL
      exact h L H' le hL
/-- the last two statements -/
theorem pss_last {cn : Str} {D0 : Addr} (G : HotK X p D0 cn) {iF : Nat} {nf : Str} {q0 q1 q2 q3 q4 q5 q6 q7 q8 q9 q10 q11 q12 q13 q14 q15 q16 : Pos} {j1 j2 : Nat} {rn : Expr} {v : V} (hg : Gl X "ValueError") (hm : X.mg "ValueError" = none) (hk : PySem.W.kitOne X.K (.ref D0) (.type "ValueError") = some true)
    (hgl : Gl X "len") (hml : X.mg "len" = none) (hf : ∀ p, PE X (.Name nf p) (tVar iF)) :
    PSs X [.If (.BoolOp .Or [.UnaryOp .Not (.Call (.Name "isinstance" q0) [.Name cn q1, .Name "ValueError" q2] [] q3) q4, .Compare (.Call (.Name "len" q5) [.Name nf q6] [] q7) [.NotEq] [.Constant (.int 1) j1 q8] q9] q10) [.Return (some rn) q11] [] q12,
      .Return (some (.Subscript (.Name nf q14) (.Constant (.int 0) j2 q13) q15)) q16] (fun D σ H => holds p σ ∧ hasL iF [v] σ H ∧ D.rt v H) := by
  have h1 : PT X (.BoolOp .Or [.UnaryOp .Not (.Call (.Name "isinstance" q0) [.Name cn q1, .Name "ValueError" q2] [] q3) q4, .Compare (.Call (.Name "len" q5) [.Name nf q6] [] q7) [.NotEq] [.Constant (.int 1) j1 q8] q9] q10) _ :=
    PW.pt (pw_or (pt_not (pt_val (pe_isVE G hg hm hk) fun _ => rfl)) (pw_or1 (pt_cmp (pc_neI (pe_callB call_len_seq hgl hml boot_len (pa_cons (hf q6) pa_nil rfl) (by decide) (by decide) rfl rfl) pe_int) rfl)))
  have h2 : PS X (.Return (some (.Subscript (.Name nf q14) (.Constant (.int 0) j2 q13) q15)) q16) _ := ps_ret (pe_ix ix_seq (hf q14) pe_int (plainIx_of rfl))
  refine PSs.imp (pss_cons (ps_if h1 pss_never pss_nil) (pss_one h2)) ?_
  rintro D σ H ⟨h0, ⟨T, t1, t2⟩, h⟩
  refine ⟨h0, true, rfl, ?_⟩
  refine ⟨_, t1, ⟨T, [v], rfl, .inl (.inl (.inl t2)), ?_⟩⟩
  refine ⟨_, 1, rfl, rfl, _, rfl, ?_⟩
  show tRet (tOp (rIx X.K) (tVar iF) (tC (V.int 0))) D σ H
  exact ⟨_, t1, .inl ⟨T, [v], 0, v, rfl, rfl, .inl (.inl t2), rfl, h⟩⟩
end
end Ms

set_option Elab.async false
set_option linter.all false
set_option autoImplicit false
set_option maxRecDepth 100000
set_option maxHeartbeats 1000000
namespace Ms
open PySem PySem.Spec L2 SX
open PyProof.Rows hiding St
section
variable {g : Glob} {k : Nat} {N : List Str} {sc : Scope} {W : WX} {X : Cx} {Z Z' : Hp} {S S' : List Addr} {σ : L2.St} {H H' : Hp} {s s' : Sto} {e : Env} {b : Bs}
/-! ### raise -/
/-- a plain class of exceptions, number c -/
structure ExOk (g : Glob) (c : Nat) : Prop where
  ex : PySem.W.excIn g.K (g.xa c) He.veBase "ValueError.__new__" = true
  kp : PySem.W.keepIn g.K (.ref (g.xa c)) = true
  sb : PySem.W.subIn g.K (.ref (g.xa c)) (.type "BaseException") = some true
  ty : PySem.W.typeIn g.K (.ref (g.xa c)) = some (.type "type")
theorem ps_raiseE (G : GoodX g k N sc W X) {c : Nat} (xo : ExOk g c) {x m : Str} {j : Nat} {p p2 pos pos2 : Pos} (hg : Gl X x) (hm : g.mg x = some (.ref (g.xa c))) (hdb : (x == ("__debug__" : Str)) = false) :
    PS X (.Raise (some (.Call (.Name x p) [.Constant (.str m) j p2] [] pos)) none pos2) (tMS g W fun e s => .ex c noRow e s) := by
  refine PS.imp (L2N.ps_raise G.calm G.tk (L2N.pmk_own PySem.F.excBase_ValueError (by rw [G.hK]; exact xo.ex) (by rw [G.hmg]; exact hm) (by rw [G.hK]; exact xo.kp) (raises_own (by rw [G.hK]; exact xo.sb) (by rw [G.hK]; exact xo.ty)) hg hdb)) ?_
  intro D σ H h
  obtain ⟨b, Z, S, e, s, R, h⟩ := tMS_iff.mp h
  exact h none σ Z S H R .refl rfl
/-! ### more of the heap -/
theorem StoR.grow (q : StoR g Z S H s) (le : HLe H H') : StoR g Z S H' s ∧ Ext S Z H S Z H' := by
  refine ⟨⟨fun a o e => le _ _ (q.z _ _ e), q.sl, fun i c a h1 h2 => ?_, q.sd, q.sz, LamX.Tabs.ext q.tb le, q.zt⟩, ⟨HLe.refl _, List.prefix_refl _, fun a o e _ _ => le _ _ e, fun a ps e => ⟨ps, le _ _ e⟩, fun a m => .inl m, fun a o e => .inl e⟩⟩
  have := q.st i c a h1 h2
  revert this
  cases c with
  | lst l => rintro ⟨vs, h, r⟩; exact ⟨vs, le _ _ h, r⟩
  | ins c fs => rintro ⟨dx, vs, h, r⟩; exact ⟨dx, vs, le _ _ h, r⟩
/-! ### try .. except -/
/-- the def that tells a caught exception's word -/
structure WordOk (g : Glob) (f : Addr) (x : Str) : Prop where
  mg : g.mg x = some (.ref f)
  kp : PySem.W.keepIn g.K (.ref f) = true
  db : (x == ("__debug__" : Str)) = false
  fn : ∀ (c : Nat) (w : List Nat), g.G (1000 + c) = .str w → okS w ∧ ∃ fd ps, FnW g.P g.w g.K g.mg g.base (L2N.CX g.P g.w) 1 f fd ps (.ref (g.xa c)) (strV w) ∧ ps.length = 1 ∧ L2.Binds g.K fd ps []
theorem GoodD.tr (G : GoodD g k N sc W X) {W' : WX} {pn : List (Addr × Obj)} {xe : Value → Shared → Prop} (tk : L2N.Takes (X.tr pn xe) W') (ow : PassesOwn (model X.prog X.w) X.A X.env xe) : GoodD g k N sc W' (X.tr pn xe) where
  hP := G.hP
  hw := G.hw
  hK := G.hK
  hmg := G.hmg
  hbase := G.hbase
  hN := G.hN
  nd := G.nd
  hsc := G.hsc
  calm := G.calm
  room := G.room
  tk := tk
  fn := G.fn
  stk := G.stk
  frm := G.frm
  room3 := G.room3
  own := ow
/-- the word, in the suite -/
theorem pe_word (G : GoodD g k N sc W X) {f : Addr} {x n : Str} {i : Nat} (wo : WordOk g f x) (hg : Gl X x) (hi : N[i]? = some n) (hn : nameIs N sc true i n = true) (hd1 : (n == ("__debug__" : Str)) = false) (hd2 : (n == ("__classdict__" : Str)) = false)
    {a : Addr} {oe : Obj} {cls : Value} {pn : List (Addr × Obj)} {p1 p2 p3 : Pos} {c : Nat} {w : List Nat} (hc : cls = .ref (g.xa c)) (hw : g.G (1000 + c) = .str w) (hz : L2N.Zn cls none oe) (hf : ∃ vs, oe.data = .fields vs) :
    PE (X.suite a ((a, oe) :: pn)) (.Call (.Name x p1) [.Name n p2] [] p3) (fun σ H Q => σ[i]? = some (some (.ref a)) ∧ ∀ H', HLe H H' → Q (strV w) H') := by
  obtain ⟨_, fd, ps, F, h1, hb⟩ := wo.fn c w hw
  obtain ⟨vs, hv⟩ := hf
  have hot : L2H.Hot1 (X.suite a ((a, oe) :: pn)).A (a, oe) := ⟨rfl, vs, hv, hz.2.2 vs hv⟩
  have hv : Vis X.env.scope n := by
    obtain ⟨_, l, _⟩ := nameIs_of (X := X) G.hsc (fun _ => G.fn) hn
    rw [G.hsc]
    exact l.elim .inl fun l => .inr (.inl l)
  have F' : FnW X.prog X.w X.K X.mg X.base (L2N.CX X.prog X.w) 1 f fd ps (.ref (g.xa c)) (strV w) := by rw [G.hP, G.hw, G.hK, G.hmg, G.hbase]; exact F
  refine pe_callW (X := X.suite a ((a, oe) :: pn)) (p := (a, oe)) F' h1 (L2H.RoomH.mono (k := 4 * k + 1) ⟨(L2H.roomH_of G.room).dp, (L2H.roomH_of G.room).un⟩ (by omega)) hot List.mem_cons_self ⟨by rw [← hc]; exact hz.1, hz.2.1, ⟨vs, by assumption⟩⟩ hg (by show X.mg x = _; rw [G.hmg]; exact wo.mg) (by show PySem.W.keepIn X.K _ = _; rw [G.hK]; exact wo.kp) (by show L2.Binds X.K fd ps []; rw [G.hK]; exact hb) (fun σ => ?_) (pe_var (by show X.N[i]? = _; rw [G.hN]; exact hi) hv hd1 hd2) wo.db rfl
  rintro pins H s e s' J ⟨_, _, _, _, _, _, _, _, _, _, _, _, h⟩
  exact h.elim
/-- how a suite returns -/
def tRetD (g : Glob) (a : Addr) (i : Nat) (d : D) : TS := fun D σ H => σ[i]? = some (some (.ref a)) ∧ ∃ (b : Bs) (Z : Hp) (S : List Addr) (s : Sto), StoR g Z S H s ∧ Ext b.S b.Z b.H S Z H ∧ ∀ v Z' S' H', StoR g Z' S' H' s → Ext b.S b.Z b.H S' Z' H' → Den g Z' S' v d → D.rt v H'
structure SuiteOk (g : Glob) (X : Cx) (i : Nat) (h : Hd) (st : Stmt) : Prop where
  run : ∀ (a : Addr) (oe : Obj) (cls : Value) (pn : List (Addr × Obj)) (c : Nat) (w : List Nat) (d : D), g.G (1000 + c) = .str w → hdW h w = some d → cls = .ref (g.xa c) → L2N.Zn cls none oe → (∃ vs, oe.data = .fields vs) →
    PS (X.suite a ((a, oe) :: pn)) st (tRetD g a i d)
section
variable {f : Addr} {x n : Str} {i : Nat}
theorem suite_tf (G : GoodD g k N sc W X) (wo : WordOk g f x) (hg : Gl X x) (hi : N[i]? = some n) (hn : nameIs N sc true i n = true) (hd1 : (n == ("__debug__" : Str)) = false) (hd2 : (n == ("__classdict__" : Str)) = false)
    {j kt : Nat} {p0 p1 p2 p3 p4 p5 : Pos} : SuiteOk g X i .tf (.Return (some (.Tuple [.Constant (.bool false) j p0, .Call (.Name x p1) [.Name n p2] [] p3] kt p4)) p5) := by
  refine ⟨fun a oe cls pn c w d hw h hc hz hf => ?_⟩
  have h : some (D.tup [.bl false, .str w]) = some d := h
  injection h with h
  subst h
  refine PS.imp (ps_ret (pe_tup (pa_cons pe_bl (pa_cons (pe_word G wo hg hi hn hd1 hd2 hc hw hz hf) pa_nil rfl) rfl))) ?_
  rintro D σ H ⟨h0, b, Z, S, s, q, x, h⟩
  refine ⟨h0, fun H' le => ⟨by show 2 ≤ sizeLine; decide, fun p np => ?_⟩⟩
  obtain ⟨q1, x1⟩ := q.grow le
  obtain ⟨q2, x2⟩ := lay q1 np (notTbl_tup [.bl false, strV w])
  exact h _ _ _ _ q2 ((x.trans x1 q1.sz).trans x2 q2.sz) (.tup (SqT.of upd_same) (.cons (.bl _) (.cons (.str _ (wo.fn c w hw).1) .nil)))
theorem suite_wd (G : GoodD g k N sc W X) (wo : WordOk g f x) (hg : Gl X x) (hi : N[i]? = some n) (hn : nameIs N sc true i n = true) (hd1 : (n == ("__debug__" : Str)) = false) (hd2 : (n == ("__classdict__" : Str)) = false)
    {p1 p2 p3 p5 : Pos} : SuiteOk g X i .wd (.Return (some (.Call (.Name x p1) [.Name n p2] [] p3)) p5) := by
  refine ⟨fun a oe cls pn c w d hw h hc hz hf => ?_⟩
  have h : some (D.str w) = some d := h
  injection h with h
  subst h
  refine PS.imp (ps_ret (pe_word G wo hg hi hn hd1 hd2 hc hw hz hf)) ?_
  rintro D σ H ⟨h0, b, Z, S, s, q, x, h⟩
  refine ⟨h0, fun H' le => ?_⟩
  obtain ⟨q1, x1⟩ := q.grow le
  exact h _ _ _ _ q1 (x.trans x1 q1.sz) (.str _ (wo.fn c w hw).1)
end
/-- try: body / except X as n: return .. -/
theorem ps_tryE (G : GoodD g k N sc W X) {m : Env → Sto → SRs} {body : List Stmt} {x n : Str} {cv : Value} {i : Nat} {h : Hd} {cl : List Nat} {st : Stmt} {np pos pos' : Pos} (hi : N[i]? = some n) (hn : sc.names.lookup n = some .local) (hc : Names X x cv)
    (he : ∀ c, c < 24 → PySem.W.exmOne g.K (.ref (g.xa c)) cv = some (cl.contains c)) (hb : ∀ (X' : Cx) (W' : WX), GoodD g k N sc W' X' → PSs X' body (tMS g W' m)) (hs : SuiteOk g X i h st) :
    PS X (.Try body [.ExceptHandler (some (.Name x np)) (some n) [st] pos'] [] [] pos) (tMS g W fun e s => match m e s with
      | .ex c r e1 s1 => (match decide (c < 24) with
        | false => .bad
        | true => (match cl.contains c with
        | true => (match decide (i < e1.length) with
          | true => (match hdV g.G h c r with
            | some d => .rt d s1
            | none => .bad)
          | false => .bad)
        | false => .ex c r e1 s1))
      | r => r) := by
  refine PS.imp (L2N.ps_try_as (ts := fun a cls dd D σ H => ∃ c w d, g.G (1000 + c) = .str w ∧ hdW h w = some d ∧ cls = .ref (g.xa c) ∧ dd = none ∧ tRetD g a i d D σ H) G.stk G.frm (by rw [G.hN]; exact G.nd) (by rw [G.hN]; exact hi) (by show X.env.scope.names.lookup n = _; rw [G.hsc]; exact hn) hc G.tk (tb := fun W' => tMS g W' m) (fun W' pn xe tk ow => hb _ _ (G.tr tk ow)) ?_) ?_
  · intro a oe cls dd pn hz hf
    refine ⟨fun pins s σ H D J hh => ?_⟩
    obtain ⟨c, w, d, h1, h2, h3, rfl, h4⟩ := hh
    exact (pss_one (hs.run a oe cls pn c w d h1 h2 h3 hz hf)).run pins s σ H D J h4
  · intro D σ H hh
    obtain ⟨b, Z, S, e, s, R, hh⟩ := tMS_iff.mp hh
    refine tMS_iff.mpr ⟨b, Z, S, e, s, R, ?_⟩
    cases hm : m e s with
    | ex c r e1 s1 =>
      rw [hm] at hh
      dsimp only at hh
      cases h24 : decide (c < 24) with
      | false => rw [h24] at hh; exact hh.elim
      | true =>
      rw [h24] at hh
      intro dd σ' Z' S' H' R' y er
      refine ⟨_, by rw [G.hK]; exact he c (of_decide_eq_true h24), fun hcl a na => ?_, fun hcl => ?_⟩
      · dsimp only at hh
        rw [hcl] at hh
        cases lt : decide (i < e1.length) with
        | false => rw [lt] at hh; exact hh.elim
        | true =>
          rw [lt] at hh
          have lt := of_decide_eq_true lt
          cases hv : hdV g.G h c r with
          | none => rw [hv] at hh; exact hh.elim
          | some d =>
            rw [hv] at hh
            have hr : r = .dct [] ∧ ∃ w, g.G (1000 + c) = .str w ∧ hdW h w = some d := by
              unfold hdV at hv
              split at hv
              · cases hw : g.G (1000 + c) with
                | str w => simp only [wdG, hw, Option.bind_some] at hv; exact ⟨rfl, w, rfl, hv⟩
                | _ => simp only [wdG, hw, Option.bind_none] at hv; cases hv
              · cases hv
            obtain ⟨rfl, w, hw, hd⟩ := hr
            cases dd with
            | none => exact ⟨c, w, d, hw, hd, rfl, rfl, List.getElem?_set_self (by rw [← R'.env.el]; exact lt), b, Z', S', s1, R'.sto, R'.ext, hh⟩
            | some dx => exact absurd rfl (er.2 [])
      · dsimp only at hh
        rw [hcl] at hh
        exact hh dd σ' Z' S' H' R' y er
    | nx e1 s1 => rw [hm] at hh; exact hh
    | rt d s1 => rw [hm] at hh; exact hh
    | bk e1 s1 => rw [hm] at hh; exact hh
    | ct e1 s1 => rw [hm] at hh; exact hh
    | bad => rw [hm] at hh; exact hh
end
end Ms

set_option Elab.async false
set_option linter.all false
set_option autoImplicit false
set_option maxRecDepth 100000
set_option maxHeartbeats 2000000
namespace Ms
open PySem PySem.Spec L2 NdefX LamX
open PyProof.Rows hiding St
section
variable {X : Cx} {pins : List (Addr × Obj)} {σ : L2.St} {H HZ : Hp} {s : Shared}
theorem cells_un {cl : List (Str × Addr)} {fr : List Str} {ws : List (Option V)} {fs : List Addr} {h h' : Heap} (C : CellsAt cl fr ws h H) (u : Un fs [] H HZ h h') : CellsAt cl fr ws h' HZ := by
  have kp : ∀ {c : Addr} {v : Option Value}, H c = none → h.IsCell c v → h'.IsCell c v := fun {c v} n ⟨o, ho, hd⟩ => by
    obtain ⟨sl, q⟩ := u.any ho n (by simp)
    exact ⟨_, q, hd⟩
  refine ⟨C.len, fun y c e => ?_, C.inj, fun i y e => ?_⟩
  · obtain ⟨n, v, z⟩ := C.all y c e
    refine ⟨?_, v, kp n z⟩
    obtain ⟨o, ho, _⟩ := z
    exact u.free c o ho n (by simp)
  · obtain ⟨c, hc, hv⟩ := C.has i y e
    refine ⟨c, hc, fun v ev => ?_⟩
    obtain ⟨w, r, z⟩ := hv v ev
    exact ⟨w, r, kp (C.all y c hc).1 z⟩
/-- a lambda's words, the cells that it captured in X, its code object -/
abbrev lamF (X : Cx) (params : Arguments) (scope : Scope) (c' : Addr) : NF := ⟨"<lambda>", X.env.qual ++ "<lambda>", params, [], scope, cloFrom X.env.cells scope.names [], c'⟩
/-- what the text of a lambda with one parameter must give -/
structure LamT (X : Cx) (Nl fr : List Str) (js : List Nat) (kn : Str) (params : Arguments) (scope : Scope) : Prop where
  sc : NScope Nl [kn] fr scope
  free : ∀ y ∈ scope.names, y.2 = .free → X.env.scope.names.lookup y.1 = some .cell ∨ X.env.scope.names.lookup y.1 = some .free
  frs : ∀ y ∈ fr, (y, NameKind.free) ∈ scope.names
  at_ : js.map (fun j => X.N[j]?) = fr.map some
/-- a(x), in the def g that got the lambda; the def was entered at s -/
theorem pe_actK {CXg : CXT} {Eg : XK} {Ng : List Str} {qg : Str} {sg : Scope} {gg f c' : Addr} {cdg pm ctv : Value} {params : Arguments} {body ek : Expr} {scope : Scope} {k i j : Nat} {a kn : Str} {Nl fr : List Str} {js : List Nat} {tb : TE} {p1 p2 : Pos}
    (J : L2.Inv X pins σ H s) (L : LamT X Nl fr js kn params scope) (hf : s.heap.get? f = some (PySem.W.kla_obj "<lambda>" (X.env.qual ++ "<lambda>") params body scope (cloFrom X.env.cells scope.names []) pm c' ctv)) (hfn : H f = none) (hfr : f ∉ frs X.stack)
    (hbind : ∀ u, bindArgs (PySem.W.kla_fn "<lambda>" (X.env.qual ++ "<lambda>") params body scope (cloFrom X.env.cells scope.names []) pm (.ref c') ctv) ⟨[u], []⟩ = pure [(kn, u)])
    (hr : Room (k + 1) (X.A.deeper (envOfC qg sg s.heap.objs.size gg cdg)))
    (hbody : ∀ (A : Around) (outer : List PySem.Env) (s : Shared) (H : Hp), Room k (A.deeper (envF (lamF X params scope c') f s.heap.objs.size)) → PE (ncx (L2N.CX X.prog X.w) X.prog X.w X.K X.mg X.base Nl (lamF X params scope c') f A outer s H fun _ _ _ => False) body tb)
    (hN : Ng[i]? = some a) (hv : Vis sg a) (hd : (a == ("__debug__" : Str)) = false) (hcd : (a == ("__classdict__" : Str)) = false) (hs : notStar ek = true)
    (hk : PE (cxOf CXg X.prog X.w X.K X.mg X.base Ng qg sg gg cdg X.A X.stack s H Eg) ek (tVar j)) :
    PE (cxOf CXg X.prog X.w X.K X.mg X.base Ng qg sg gg cdg X.A X.stack s H Eg) (.Call (.Name a p1) [ek] [] p2)
      (fun σZ HZ Q => σZ[i]? = some (some (.ref f)) ∧ HZ c' = some (CodeO c' (X.env.qual ++ "<lambda>")) ∧ ∃ vk, σZ[j]? = some (some vk) ∧ tb (startF Nl [vk] (js.map (slotAt σ))) HZ Q) := by
  refine ⟨fun pinsZ sZ σZ HZ Q JZ h => ?_⟩
  obtain ⟨h1, h2, vk, h3, ht⟩ := h
  refine wpAny_Call_Name_kw (thn ((pe_var (pos := p1) (i := i) hN hv hd hcd).run pinsZ sZ σZ HZ (fun v H1 => v = .ref f ∧ H1 = HZ) JZ ⟨.ref f, h1, rfl, rfl⟩) fun u s1 hu => ?_)
  obtain ⟨v, H1, J1, r1, rfl, rfl⟩ := hu
  obtain rfl : u = Value.ref f := r1
  have nx : ∀ b : Addr, b ∉ ([] : List Addr) := fun b => by simp
  have keepF : ∀ {s1 : Shared} {H1 : Hp} {pz : List (Addr × Obj)} {σ1 : L2.St}, L2.Inv (cxOf CXg X.prog X.w X.K X.mg X.base Ng qg sg gg cdg X.A X.stack s H Eg) pz σ1 H1 s1 → s1.heap.get? f = some (PySem.W.kla_obj "<lambda>" (X.env.qual ++ "<lambda>") params body scope (cloFrom X.env.cells scope.names []) pm c' ctv) :=
    fun J1 => J1.base.keep f _ hf hfn hfr (nx f)
  have ha : PA (cxOf CXg X.prog X.w X.K X.mg X.base Ng qg sg gg cdg X.A X.stack s H Eg) [ek] (tCons (tVar j) tNil) := pa_cons hk pa_nil (star1 hs)
  refine PySem.W.callWith_F (first := []) ⟨_, _, _, _, keepF J1⟩ (thn (ha.run p2 pinsZ s1 σZ H1 (fun vs H2 => vs = [vk] ∧ H2 = H1) J1 ⟨vk, h3, rfl, rfl⟩) fun us s2 hh => ?_) (star1 hs) rfl
  obtain ⟨vs, H2, J2, r2, rfl, rfl⟩ := hh
  cases r2 with
  | @cons _ uk _ _ ru rr =>
    cases rr
    have of2 := keepF J2
    refine ⟨⟨_, _, _, _, of2⟩, ?_⟩
    show wpAny _ _ (call (.ref f) [uk]) _ _ _
    have un : Un (frs X.stack) [] H H2 s.heap s2.heap := J2.base
    have cells := cells_un (cells_of J (Caps.made J.ok L.free L.frs L.at_)) un
    obtain ⟨⟨oc, vs, t, hoc, hdc, hvc⟩, _, _⟩ := J2.hok c' _ h2
    have rc : codeAny (model X.prog X.w) (X.A.deeper (envOfC qg sg s.heap.objs.size gg cdg)) (.call (.ref f) ⟨[uk], []⟩) (CR (L2N.CX X.prog X.w) (envOfC qg sg s.heap.objs.size gg cdg :: X.stack) X.prog X.w H2 s2 Q fun _ _ _ => False) s2 := by
      refine PySem.W.kla_callFunE hr.depth of2 rfl L.sc.co L.sc.gen rfl ⟨c', oc, vs, t, rfl, hoc, hdc, hvc⟩ ?_
      rw [hbind uk]
      refine wpAny_pure (wpAny_newFunctionEnv L.sc.nocell (fun ⟨n, _⟩ hy => L.sc.par n (by have := List.mem_singleton.mp hy; injection this with e1 e2; rw [e1]; exact List.mem_singleton.mpr rfl)) (fun h₁ hns hsb => ⟨J2.nolimit.fresh _ hsb, ?_⟩) L.sc.kind)
      show codeAny _ _ (.expr body (envF (lamF X params scope c') f s2.heap.objs.size)) _ _
      have kp : ∀ b o, s2.heap.get? b = some o → h₁.get? b = some o := fun b o e => hsb.extBut b o (Nat.ne_of_lt (Heap.lt_size e)) (Heap.get?_push_of_some _ e)
      have JL := inv_startN (CX := L2N.CX X.prog X.w) (E := fun _ _ _ => False) (F := lamF X params scope c') (f := f) (tk := s2.toks + ([(kn, uk)] : List (Str × Value)).length) L.sc hr.hd J2.env0 (vs := [vk]) (us := [uk]) rfl (.cons ru .nil) cells hns kp
      refine PySem.W.kla_codeExpr (wpAny_mono ((hbody _ _ s2 H2 (hr.deeper _)).run [] _ _ H2 Q JL ht) (fun v s' hq => ?_) fun e s' hq => hq)
      obtain ⟨w', H', J', rv, q⟩ := hq
      exact ⟨w', H', J'.os, J'.bare, J'.base, J'.hok, rv, q⟩
    refine wpAny_call (codeAny_mono rc fun r s' hq => ?_)
    cases r with
    | error e => obtain ⟨_, _, _, _, _, _, _, _, _, _, _, _, z⟩ := hq; exact z.elim
    | ok fl =>
      cases fl with
      | ret u => exact J2.after hq
      | next => exact hq.elim
      | brk => exact hq.elim
      | cont => exact hq.elim
end
end Ms

set_option Elab.async false
set_option linter.all false
set_option autoImplicit false
set_option maxRecDepth 100000
set_option maxHeartbeats 2000000
namespace Ms
open PySem PySem.Spec L2 NdefX LamX SX
open PyProof.Rows hiding St
section
variable {g : Glob} {k : Nat} {N : List Str} {sc : Scope} {W : WX} {X : Cx} {Z Z' : Hp} {S S' : List Addr} {σ : L2.St} {H H' : Hp} {s s' : Sto} {e : Env} {b : Bs}
/-- a frame's beginning -/
theorem start_rel (q : StoR g Z S H s) {vs : List V} {ds : List D} (dn : DenL g Z S vs ds) (m : Nat) : Rel g ⟨S, Z, H⟩ Z S (vs.map some ++ List.replicate m none) H (ds.map Slot.val ++ List.replicate m .non) s := by
  refine ⟨q, ⟨by simp [dn.length], fun i t v h1 h2 => ?_, fun i j t t2 v h1 h2 o1 o2 _ _ => ?_⟩, .refl⟩
  · by_cases hi : i < ds.length
    · rw [List.getElem?_append_left (by simpa using hi), List.getElem?_map, List.getElem?_eq_getElem hi] at h1
      simp only [Option.map_some, Option.some.injEq] at h1
      subst h1
      obtain ⟨w, e, r⟩ := dn.get (List.getElem?_eq_getElem hi)
      have hi2 : i < vs.length := by rw [dn.length]; exact hi
      rw [List.getElem?_append_left (by simpa using hi2), List.getElem?_map, e] at h2
      simp only [Option.map_some, Option.some.injEq] at h2
      exact ⟨w, h2.symm, r⟩
    · rw [List.getElem?_append_right (by simpa using Nat.le_of_not_lt hi)] at h1
      have := List.mem_of_getElem? h1
      rw [List.mem_replicate] at this
      rw [this.2]
      trivial
  · by_cases hi : i < ds.length
    · rw [List.getElem?_append_left (by simpa using hi), List.getElem?_map, List.getElem?_eq_getElem hi] at h1
      simp only [Option.map_some, Option.some.injEq] at h1
      subst h1
      cases o1
    · rw [List.getElem?_append_right (by simpa using Nat.le_of_not_lt hi)] at h1
      have := List.mem_of_getElem? h1
      rw [List.mem_replicate] at this
      rw [this.2] at o1
      cases o1
theorem getAll_den (R : Rel g b Z S σ H e s) : ∀ {js : List Nat} {ds : List D}, getAll js e = some ds → ∃ vs, js.map (slotAt σ) = vs.map some ∧ DenL g Z S vs ds
  | [], ds, h => by
    simp only [getAll, Option.some.injEq] at h
    subst h
    exact ⟨[], rfl, .nil⟩
  | j :: js, ds, h => by
    simp only [getAll] at h
    cases h1 : e.get j with
    | none => rw [h1] at h; cases h
    | some d =>
      rw [h1] at h
      cases h2 : getAll js e with
      | none => rw [h2] at h; cases h
      | some r =>
        rw [h2] at h
        simp only [Option.some.injEq] at h
        subst h
        obtain ⟨vs, e1, r1⟩ := getAll_den R h2
        have hj : e[j]? = some (.val d) := by
          unfold Env.get at h1
          split at h1
          · rename_i q; simp only [Option.some.injEq] at h1; subst h1; exact q
          · cases h1
        have hl : j < σ.length := by rw [← R.env.el]; exact (List.getElem?_eq_some_iff.mp hj).1
        obtain ⟨v, e2, dn⟩ := R.env.ev j _ _ hj (List.getElem?_eq_getElem hl)
        refine ⟨v :: vs, ?_, .cons dn r1⟩
        rw [List.map_cons, List.map_cons, e1, slotAt_of (v := v) (by rw [List.getElem?_eq_getElem hl, e2])]
/-- lambdas were made: the tables have grown -/
theorem StoR.lam (q : StoR g Z S H s) (x : ExtN H H') (t : Tabs g.tabs H') (nw : ∀ p ps, H p = some (.tbl ps) → ∃ ps', H' p = some (.tbl ps')) : StoR g Z S H' s ∧ Ext S Z H S Z H' := by
  refine ⟨⟨fun a o e => x a o (q.z _ _ e) (q.zt a o e), q.sl, fun i c a h1 h2 => ?_, q.sd, q.sz, t, q.zt⟩, ⟨HLe.refl _, List.prefix_refl _, fun a o e _ nt => x a o e nt, nw, fun a m => .inl m, fun a o e => .inl e⟩⟩
  have := q.st i c a h1 h2
  revert this
  cases c with
  | lst l => rintro ⟨vs, h, r⟩; exact ⟨vs, x _ _ h (notTbl_lst _), r⟩
  | ins c fs => rintro ⟨dx, vs, h, r⟩; exact ⟨dx, vs, x _ _ h (fun _ z => nomatch z), r⟩
/-- an object that is no cell of the store stays -/
theorem ext_code {c : Addr} {qn : Str} (q : StoR g Z S H s) (x : Ext S Z H S' Z' H') (h : H c = some (CodeO c qn)) : H' c = some (CodeO c qn) := by
  refine x.hh c _ h (fun m => ?_) (fun ps z => codeO_ne ps z)
  obtain ⟨i, hi, ei⟩ := List.getElem_of_mem m
  have hs : i < s.length := by rw [q.sl]; exact hi
  have := q.st i s[i] c (List.getElem?_eq_getElem hs) (by rw [List.getElem?_eq_getElem hi, ei])
  revert this
  cases s[i] with
  | lst l => rintro ⟨vs, h2, _⟩; rw [h] at h2; cases h2
  | ins c2 fs => rintro ⟨dx, vs, h2, _⟩; rw [h] at h2; cases h2
end
end Ms

set_option Elab.async false
set_option linter.all false
set_option autoImplicit false
set_option maxRecDepth 100000
set_option maxHeartbeats 2000000
namespace Ms
open PySem PySem.Spec L2 NdefX LamX SX
open PyProof.Rows hiding St
section
variable {X : Cx} {pins : List (Addr × Obj)} {σ : L2.St} {H : Hp} {s : Shared}
/-- a lambda is made; the tables stay tables -/
theorem lam_mk {T : List (Addr × Str)} {c P : Addr} {params : Arguments} {body : Expr} {scope : Scope} {pos : Pos} {E : Value → Shared → Prop} {Q : Value → Shared → Prop} (J : L2.Inv X pins σ H s) (TB : TabB X.base X.mg c P) (hcode : X.env.code = .ref c)
    (hm : (P, X.env.qual ++ "<lambda>") ∈ T) (hu : ∀ p ∈ T, p.1 = P → p.2 = X.env.qual ++ "<lambda>") (hT : Tabs T H) (hdef : defaultsOf params X.env = ([], [])) (hfree : ∀ y ∈ scope.names, y.2 = .free → ∃ c, X.env.cells.lookup y.1 = some c)
    (h : ∀ (f c' : Addr) (pm ctv : Value) (H1 : Hp) (s' : Shared), L2.Inv X pins σ H1 s' → ExtN H H1 → Tabs T H1 → (∀ p ps, H p = some (.tbl ps) → ∃ ps', H1 p = some (.tbl ps')) →
      s'.heap.get? f = some (PySem.W.kla_obj "<lambda>" (X.env.qual ++ "<lambda>") params body scope (cloFrom X.env.cells scope.names []) pm c' ctv) → H1 f = none → f ∉ frs X.stack → H1 c' = some (CodeO c' (X.env.qual ++ "<lambda>")) → Q (.ref f) s') :
    wpAny (model X.prog X.w) X.A (eval (.Lambda params body scope pos) X.env) Q E s := by
  obtain ⟨ps, hP, ht, told⟩ := hT _ hm
  have hP' : s.heap.get? P = some { cls := .none, data := .fields ps } := J.hok P _ hP
  have bP : s.heap.BuiltinsAt X.mg P := TB.bm.keeps J.bk
  have out : ∀ f, s.heap.objs.size ≤ f → f ∉ frs X.stack := fun f le m => by
    rcases List.mem_cons.mp (J.stkSub _ m) with e | e
    · have lt := J.lt
      rw [← e] at lt
      exact absurd (Nat.lt_of_lt_of_le lt le) (Nat.lt_irrefl _)
    · exact J.nofs le e
  refine PySem.W.kla_eval hdef ?_
  cases hc : codeAmong pos ps.toList with
  | some cv =>
    obtain ⟨c', rfl, hco⟩ := told pos cv hc
    refine PySem.W.kla_makeFunctionHit (mg := X.mg) (c := c) (P := P) (ps := ps) (closure_ok hfree) J.ok.glob (J.mod.glob.keeps J.bk) hcode (TB.code.keeps J.bk) hP' ht hc bP fun ctv h' tk kp le => ?_
    exact h h'.objs.size c' ((X.mg "__name__").getD .none) ctv H _ (J.kept fun b o e => Heap.get?_push_of_some _ (kp b o e)) (ExtN.refl H) hT (fun p ps e => ⟨ps, e⟩) (Heap.get?_push_size _ rfl) (J.hok.fresh le) (out _ le) hco
  | none =>
    refine PySem.W.kla_makeFunction (mg := X.mg) (c := c) (P := P) (ps := ps) (closure_ok hfree) J.ok.glob (J.mod.glob.keeps J.bk) hcode (TB.code.keeps J.bk) hP' ht hc TB.gP bP fun c' ctv h' tk ext ge lt rec tab => ?_
    obtain ⟨_, oc, vs, t, ec, hoc, hd, hv⟩ := rec
    cases ec
    have nC : H c' = none := J.hok.fresh ge
    have le : s.heap.objs.size ≤ h'.objs.size := Nat.le_trans ge (Nat.le_of_lt lt)
    generalize hn : ps ++ #[rawInt pos.line, rawInt pos.col, .ref c'] = ps2 at tab
    have J1 : L2.Inv X pins σ (upd (upd H P (.tbl ps2)) c' (CodeO c' (X.env.qual ++ "<lambda>"))) { s with heap := h'.push (PySem.W.kla_obj "<lambda>" (X.env.qual ++ "<lambda>") params body scope (cloFrom X.env.cells scope.names []) ((X.mg "__name__").getD .none) c' ctv), toks := tk } := by
      have := inv_table (q := X.env.qual ++ "<lambda>") (t' := tk) (more := #[rawInt pos.line, rawInt pos.col, .ref c']) (h' := h'.push (PySem.W.kla_obj "<lambda>" (X.env.qual ++ "<lambda>") params body scope (cloFrom X.env.cells scope.names []) ((X.mg "__name__").getD .none) c' ctv)) J hP
        (fun b o nb e => Heap.get?_push_of_some _ (ext b o nb e)) (Heap.get?_push_of_some _ (by rw [hn]; exact tab)) ge ⟨oc, vs, t, Heap.get?_push_of_some _ hoc, hd, hv⟩
      rw [hn] at this
      exact this
    have kE : ExtN H (upd (upd H P (.tbl ps2)) c' (CodeO c' (X.env.qual ++ "<lambda>"))) := fun b o e nt => by
      have n1 : b ≠ c' := ne_of_none e nC
      have n2 : b ≠ P := fun z => nt ps (by rw [z, hP] at e; exact (Option.some.inj e).symm)
      rw [upd_ne n1, upd_ne n2]
      exact e
    have e2 : ps2.toList = ps.toList ++ [rawInt pos.line, rawInt pos.col, .ref c'] := by rw [← hn]; simp
    have nP : P ≠ c' := ne_of_none hP nC
    refine h h'.objs.size c' ((X.mg "__name__").getD .none) ctv _ _ J1 kE (fun p hp => ?_) (fun p qs e => ?_) (Heap.get?_push_size _ rfl) ?_ (out _ le) upd_same
    · by_cases hb : p.1 = P
      · rw [hu p hp hb, hb]
        refine ⟨ps2, by rw [upd_ne nP, upd_same], by rw [e2]; exact PySem.TriplesOk_snoc _ _ _ _ ht, fun p' cv hcv => ?_⟩
        rw [e2] at hcv
        rcases among_app _ ht hcv with z | z
        · obtain ⟨c0, e1, e3⟩ := told p' cv z
          exact ⟨c0, e1, kE _ _ e3 codeO_ne⟩
        · exact ⟨c', z, upd_same⟩
      · obtain ⟨qs, a1, a2, a3⟩ := hT p hp
        refine ⟨qs, by rw [upd_ne (ne_of_none a1 nC), upd_ne hb]; exact a1, a2, fun p' cv hcv => ?_⟩
        obtain ⟨c0, e1, e3⟩ := a3 p' cv hcv
        exact ⟨c0, e1, kE _ _ e3 codeO_ne⟩
    · by_cases hb : p = P
      · exact ⟨ps2, by rw [hb, upd_ne nP, upd_same]⟩
      · exact ⟨qs, by rw [upd_ne (ne_of_none e nC), upd_ne hb]; exact e⟩
    · have n1 : h'.objs.size ≠ c' := Nat.ne_of_gt lt
      have n2 : h'.objs.size ≠ P := Nat.ne_of_gt (Nat.lt_of_lt_of_le (Heap.lt_size hP') le)
      rw [upd_ne n1, upd_ne n2]
      exact J.hok.fresh le
end
/-- for k in range(len(tn)): if bn(k): return k / return None -/
def fwBody (tn bn kn : Str) (p1 p2 p3 p4 p5 p6 p7 p8 p9 p10 p11 p12 p13 p14 p15 : Pos) (j : Nat) : List Stmt :=
  [.For (.Name kn p1) (.Call (.Name "range" p2) [.Call (.Name "len" p3) [.Name tn p4] [] p5] [] p6) [.If (.Call (.Name bn p7) [.Name kn p8] [] p9) [.Return (some (.Name kn p10)) p11] [] p12] [] p13, .Return (some (.Constant .none j p14)) p15]
structure FwOk (g : Glob) (x : Str) (gg : Addr) : Prop where
  mg : g.mg x = some (.ref gg)
  kp : PySem.W.keepIn g.K (.ref gg) = true
  db : (x == ("__debug__" : Str)) = false
  fn : ∃ (pg : Arguments) (sg : Scope) (dV kV doc pm cdv ct oc : Value) (an od : Option Addr) (osl : Array (Option Value)) (tn bn kn : Str) (p1 p2 p3 p4 p5 p6 p7 p8 p9 p10 p11 p12 p13 p14 p15 : Pos) (j : Nat),
    g.K.lookup gg = some ⟨oc, od, .func (PySem.W.fnOf x x pg (fwBody tn bn kn p1 p2 p3 p4 p5 p6 p7 p8 p9 p10 p11 p12 p13 p14 p15 j) sg dV kV doc pm an cdv ct), osl⟩ ∧ PySem.W.codeIn g.K cdv x = true ∧ L2.Binds g.K (PySem.W.fnOf x x pg (fwBody tn bn kn p1 p2 p3 p4 p5 p6 p7 p8 p9 p10 p11 p12 p13 p14 p15 j) sg dV kV doc pm an cdv ct) [tn, bn] [] ∧
      FnScope [tn, bn, kn] [tn, bn] sg ∧ (sg.names.lookup tn = some .local ∧ sg.names.lookup bn = some .local ∧ sg.names.lookup kn = some .local ∧ sg.names.lookup ("range" : Str) = some .globalImplicit ∧ sg.names.lookup ("len" : Str) = some .globalImplicit) ∧ g.mg "range" = none ∧ g.mg "len" = none ∧
      (∀ n ∈ [tn, bn, kn], (n == ("__debug__" : Str)) = false ∧ (n == ("__classdict__" : Str)) = false)
end Ms

set_option Elab.async false
set_option linter.all false
set_option autoImplicit false
set_option maxRecDepth 100000
set_option maxHeartbeats 2000000
namespace Ms
open PySem PySem.Spec L2 NdefX LamX SX
open PyProof.Rows hiding St
section
theorem fw_pss {Y : Cx} {tn bn kn : Str} {p1 p2 p3 p4 p5 p6 p7 p8 p9 p10 p11 p12 p13 p14 p15 : Pos} {j : Nat} {tt : TT} (hc : Y.calm = true) (hp : PassesOwn (model Y.prog Y.w) Y.A Y.env Y.xe) (hN : Y.N = [tn, bn, kn]) (nd : Y.N.Nodup)
    (h1 : Y.env.scope.names.lookup tn = some .local) (h3 : Y.env.scope.names.lookup kn = some .local) (hr : Gl Y "range") (hl : Gl Y "len") (mr : Y.mg "range" = none) (ml : Y.mg "len" = none) (db : ∀ n ∈ [tn, bn, kn], (n == ("__debug__" : Str)) = false ∧ (n == ("__classdict__" : Str)) = false)
    (ht : PT Y (.Call (.Name bn p7) [.Name kn p8] [] p9) tt) :
    PSs Y (fwBody tn bn kn p1 p2 p3 p4 p5 p6 p7 p8 p9 p10 p11 p12 p13 p14 p15 j) (tSeq (tFor (iRng1 (tCons (tCB (rLenU Y.K) (tCons (tVar 0) tNil)) tNil)) (gName 2) (tIfS tt (tRet (tVar 2)) tNext)) (tRet (tC .non))) := by
  have d1 := db tn (by simp)
  have d3 := db kn (by simp)
  have e1 : ∀ p, PE Y (.Name tn p) (tVar 0) := fun p => pe_var (by rw [hN]; rfl) (.inl h1) d1.1 d1.2
  have e3 : ∀ p, PE Y (.Name kn p) (tVar 2) := fun p => pe_var (by rw [hN]; rfl) (.inl h3) d3.1 d3.2
  refine pss_cons (ps_for hp hc (pi_range1 hr mr (pa_cons (pe_callB call_lenU hl ml boot_len (pa_cons (e1 p4) pa_nil rfl) (by decide) (by decide) rfl rfl) pa_nil rfl) rfl) (pg_name nd (by rw [hN]; rfl) (.inl h3) (.inr h3)) (pss_one (ps_if ht (pss_one (ps_ret (e3 p10))) pss_nil)) fun x => rfl) (pss_one (ps_ret pe_non))
variable {g : Glob} {k : Nat} {N : List Str} {sc : Scope} {W : WX} {X : Cx} {Z Z' : Hp} {S S' : List Addr} {σ : L2.St} {H H' : Hp} {s s' : Sto} {e : Env} {b : Bs}
theorem getAll_len : ∀ {js : List Nat} {e : Env} {ds : List D}, getAll js e = some ds → ds.length = js.length
  | [], e, ds, h => by simp only [getAll, Option.some.injEq] at h; subst h; rfl
  | j :: js, e, ds, h => by
    simp only [getAll] at h
    split at h
    · rename_i d r h1 h2
      simp only [Option.some.injEq] at h
      subst h
      simp [getAll_len h2]
    · cases h
/-- x(a, lambda kn: body): the first place where it is so -/
theorem pe_fwE (G : GoodD g k N sc W X) {x : Str} {gg cc PP : Addr} {a body : Expr} {params : Arguments} {scope : Scope} {p lpos pos : Pos} {m : M} {caps : List Nat} {Nl fr : List Str} {kn : Str} {mb : M} (fo : FwOk g x gg) (hg : Gl X x) (ha : PE X a (tM g W m)) (hs : notStar a = true)
    (L : LamT X Nl fr caps kn params scope) (TB : TabB g.base g.mg cc PP) (hcode : X.env.code = .ref cc) (hmT : (PP, X.env.qual ++ "<lambda>") ∈ g.tabs) (hu : ∀ p ∈ g.tabs, p.1 = PP → p.2 = X.env.qual ++ "<lambda>") (hdef : defaultsOf params X.env = ([], []))
    (hbind : ∀ (q : Str) (cl : List (Str × Addr)) (pm cv ctv u : Value), bindArgs (PySem.W.kla_fn "<lambda>" q params body scope cl pm cv ctv) ⟨[u], []⟩ = pure [(kn, u)])
    (hbody : ∀ X', GoodX g k Nl scope W0 X' → PE X' body (tM g W0 mb)) :
    PE X (.Call (.Name x p) [a, .Lambda params body scope lpos] [] pos) (tM g W fun e s => (m e s).bind fun x s => (Rs.of (b1 .len (der s x)) s).bind fun n s => (Rs.of (getAll caps e) s).bind fun vs s => (match n with
      | .int n => (match midInt n with
        | true => noEx (fwGo (fun i s => (mb (startE Nl.length (.int i :: vs)) s).bind truthR) 0 n.toNat s)
        | false => .bad)
      | _ => .bad)) := by
  obtain ⟨pg, sg, dV, kV, doc, pm, cdv, ct, oc, an, od, osl, tn, bn, kn2, p1, p2, p3, p4, p5, p6, p7, p8, p9, p10, p11, p12, p13, p14, p15, j, lk, hcg, hb, Sg, ⟨l1, l2, l3, l4, l5⟩, mr, ml, db⟩ := fo.fn
  refine ⟨fun pins s0 σ0 H0 Q J h => ?_⟩
  refine wpAny_Call_Name_kw (ld_glob J hg (by rw [G.hmg]; exact fo.mg) ?_ fo.db)
  refine PySem.W.callWith_K (h₀ := X.base) J.ok.mod.kin (by rw [G.hK]; exact fo.kp) ?_ (star1 hs) rfl
  rw [star1 hs]
  show wpAny _ _ (spliced ((false, eval a X.env) :: backTo pos (starEach [.Lambda params body scope lpos] X.env))) _ _ s0
  obtain ⟨b, Z, S, e, s, R, h⟩ := tM_iff.mp h
  refine Calls.spliced_cons (thn (ha.run pins s0 σ0 H0 (fun va H1 => ∃ d s1 Z1 S1, Rel g b Z1 S1 σ0 H1 e s1 ∧ Den g Z1 S1 va d ∧ postE g W Z1 S1 σ0 H1 Q ((Rs.of (b1 .len (der s1 d)) s1).bind fun n s => (Rs.of (getAll caps e) s).bind fun vs s => (match n with
      | .int n => (match midInt n with
        | true => noEx (fwGo (fun i s => (mb (startE Nl.length (.int i :: vs)) s).bind truthR) 0 n.toNat s)
        | false => .bad)
      | _ => .bad))) J (stepE R h fun d s1 v Z1 S1 H1 h R1 x1 dn => ⟨d, s1, Z1, S1, R1, dn, h⟩)) fun ua s1 hh => ?_)
  clear h R
  obtain ⟨va, H1, J1, ra, d, st1, Z1, S1, R1, dn, h⟩ := hh
  cases hlen : b1 .len (der st1 d) with
  | none => rw [hlen] at h; exact h.elim
  | some nd =>
    rw [hlen] at h
    cases hget : getAll caps e with
    | none => rw [hget] at h; exact h.elim
    | some dvs =>
      rw [hget] at h
      cases nd with
      | int n =>
        cases hmid : midInt n with
        | false => simp only [Rs.of_some, Rs.bind_ok, hmid] at h; exact h.elim
        | true =>
          simp only [Rs.of_some, Rs.bind_ok, hmid] at h
          generalize hp : (fun (i : Nat) s => (mb (startE Nl.length (.int i :: dvs)) s).bind truthR) = P at h
          cases hres : fwGo P 0 n.toNat st1 with
          | bad => rw [hres] at h; exact h.elim
          | ex _ _ _ => rw [hres] at h; exact h.elim
          | ok r st2 =>
            rw [hres] at h
            have h : ∀ v Z' S' H', StoR g Z' S' H' st2 → Ext S1 Z1 H1 S' Z' H' → Den g Z' S' v r → Q v H' := h
            simp only [midInt, decide_eq_true_eq] at hmid
            refine Calls.spliced_cons (lam_mk J1 (by rw [G.hbase, G.hmg]; exact TB) hcode hmT hu R1.sto.tb hdef (fun y hy e => (L.free y hy e).elim (fun q => J1.ok.has _ (.inl q)) fun q => J1.ok.has _ (.inr q)) fun f c' pm ctv H2 s2 J2 eN T2 tts hf hfn hfr hco => ?_)
            refine Calls.spliced_nil ⟨J2.kIn, ?_⟩
            obtain ⟨q2, x2⟩ := R1.sto.lam eN T2 tts
            have R2 := R1.ext' x2 q2
            obtain ⟨cvs, ec, dc⟩ := getAll_den R2 hget
            have lcv : cvs.length = caps.length := by rw [dc.length, getAll_len hget]
            have rc : codeAny (model X.prog X.w) X.A (.call (.ref gg) ⟨[ua, .ref f], []⟩) (CR (L2N.CX X.prog X.w) X.stack X.prog X.w H2 s2 Q fun _ _ _ => False) s2 := by
              refine run_ofS (CX := L2N.CX X.prog X.w) (k := 4 * k + 2) (N := [tn, bn, kn2]) (ps := [tn, bn]) (us := [ua, .ref f]) (vs := [va, .ref f]) (by rw [G.hK]; exact lk) (by rw [G.hK]; exact hcg) Sg G.room3 J2.env0 (hb s2 [ua, .ref f] (by rw [← G.hK]; exact J2.kIn) rfl) (.cons ra (.cons rfl .nil)) rfl fun hr' => ?_
              have key : ∃ tt : TT, PT (cxOf (L2N.CX X.prog X.w) X.prog X.w X.K X.mg X.base [tn, bn, kn2] x sg gg cdv X.A X.stack s2 H2 fun _ _ _ => False) (.Call (.Name bn p7) [.Name kn2 p8] [] p9) tt ∧
                  ∀ (i : Nat) (σ : L2.St) (HH : Hp) (QQ : Bool → Hp → Prop) (Zi : Hp) (Si : List Addr) (si : Sto), StoR g Zi Si HH si → Ext S1 Z1 H2 Si Zi HH → σ[1]? = some (some (.ref f)) → σ[2]? = some (some (.int i)) → HH c' = some (CodeO c' (X.env.qual ++ "<lambda>")) →
                    (match P i si with
                      | .ok t s' => ∀ Z' S' H', StoR g Z' S' H' s' → Ext Si Zi HH S' Z' H' → QQ t H'
                      | _ => False) → tt σ HH QQ := by
                  have dbn := db bn (by simp)
                  have dbk := db kn2 (by simp)
                  refine ⟨_, pt_truth (pe_actK (k := 4 * k + 1) (i := 1) (j := 2) (tb := tM g W0 mb) J2 L hf hfn hfr (fun u => hbind _ _ _ _ _ u) (by exact hr') (fun A outer s H hrm => hbody _ ⟨G.hP, G.hw, G.hK, G.hmg, G.hbase, rfl, L.sc.nd, rfl, rfl, hrm, L2N.takes_of rfl rfl rfl rfl⟩) rfl (.inl l2) dbn.1 dbn.2 rfl (pe_var rfl (.inl l3) dbk.1 dbk.2)) (fun _ => rfl), fun i σ HH QQ Zi Si si qi xi s1 s2 hc hm => ?_⟩
                  refine ⟨s1, hc, _, s2, ?_⟩
                  have fe : startF Nl [V.int i] (caps.map (slotAt σ0)) = (V.int i :: cvs).map some ++ List.replicate (Nl.length - (caps.length + 1)) none := by
                    rw [ec]
                    simp only [startF, List.map_cons, List.map_nil, List.cons_append, List.nil_append, List.length_cons, List.length_nil, List.length_map, lcv]
                    congr 3
                    omega
                  rw [fe]
                  have dl : (D.int i :: dvs).length = caps.length + 1 := by simp [getAll_len hget]
                  refine tM_iff.mpr ⟨⟨Si, Zi, HH⟩, Zi, Si, startE Nl.length (.int i :: dvs), si, ?_, ?_⟩
                  · have := start_rel qi (.cons (.int i) (xi.denL dc)) (Nl.length - (caps.length + 1))
                    unfold startE
                    rw [dl]
                    exact this
                  · rw [← hp] at hm
                    dsimp only at hm
                    cases hv : mb (startE Nl.length (.int i :: dvs)) si with
                    | bad => rw [hv] at hm; exact hm.elim
                    | ex _ _ _ => rw [hv] at hm; exact hm.elim
                    | ok y sy =>
                      rw [hv] at hm
                      simp only [Rs.bind_ok, truthR] at hm
                      cases ct : truth (der sy y) with
                      | none => rw [ct] at hm; exact hm.elim
                      | some t =>
                        rw [ct] at hm
                        exact fun v Z' S' H' q' x' dn' => ⟨t, tru_of G.toGoodX q' dn' ct, hm Z' S' H' q' x'⟩
              obtain ⟨tt, ht, hrd⟩ := key
              refine ⟨_, fw_pss rfl (passes_of rfl) rfl Sg.nd l1 l3 l4 l5 (by show X.mg _ = _; rw [G.hmg]; exact mr) (by show X.mg _ = _; rw [G.hmg]; exact ml) db ht, ?_⟩
              refine ⟨va, rfl, ?_⟩
              dsimp only [tNil]
              have dl := fun QL => does_len G.toGoodX Z1 S1 H2 st1 va d (.int n) QL q2 (x2.den dn) hlen
              refine dl _ fun v Z3 S3 H3 q3 x3 dn3 => ?_
              cases dn3
              refine ⟨n, rfl, by omega, by omega, ?_⟩
              refine for_range (lo := 0) (n := n.toNat) (g := gName 2) (tb := tIfS tt (tRet (tVar 2)) tNext) (D := { nx := tRet (tC .non) { nx := fun _ H' => Q .non H', rt := Q }, rt := Q }) (fun i σ HH => ∃ Zi Si si, StoR g Zi Si HH si ∧ Ext S1 Z1 H2 Si Zi HH ∧ σ[0]? = some (some va) ∧ σ[1]? = some (some (.ref f)) ∧ σ.length = 3 ∧ HH c' = some (CodeO c' (X.env.qual ++ "<lambda>")) ∧ fwGo P i (n.toNat - i) si = .ok r st2) ?_ ?_ ?_
              · exact ⟨Z3, S3, st1, q3, x3, rfl, rfl, rfl, ext_code q2 x3 hco, by rw [Nat.sub_zero]; exact hres⟩
              · rintro i σ HH hi ⟨Zi, Si, si, qi, xi, e0, e1, e2, hc, hgo⟩
                obtain ⟨mm, em⟩ : ∃ mm, n.toNat - i = mm + 1 := ⟨n.toNat - i - 1, by omega⟩
                rw [em] at hgo
                simp only [fwGo] at hgo
                have es2 : (σ.set 2 (some (V.int ((0 : Int) + i))))[2]? = some (some (.int i)) := by
                  rw [List.getElem?_set_self (by omega), Int.zero_add]
                have es1 : (σ.set 2 (some (V.int ((0 : Int) + i))))[1]? = some (some (.ref f)) := by rw [List.getElem?_set_ne (by decide)]; exact e1
                have es0 : (σ.set 2 (some (V.int ((0 : Int) + i))))[0]? = some (some va) := by rw [List.getElem?_set_ne (by decide)]; exact e0
                refine hrd i _ HH _ Zi Si si qi xi es1 es2 hc ?_
                cases hP : P i si with
                | bad => rw [hP] at hgo; cases hgo
                | ex _ _ _ => rw [hP] at hgo; cases hgo
                | ok t sy =>
                  rw [hP] at hgo
                  intro Z' S' H' q' x'
                  cases t with
                  | true =>
                    simp only [Rs.bind_ok, Rs.ok.injEq] at hgo
                    obtain ⟨rfl, rfl⟩ := hgo
                    exact ⟨_, es2, h _ Z' S' H' q' ((x2.trans xi qi.sz).trans x' q'.sz) (.int _)⟩
                  | false =>
                    simp only [Rs.bind_ok] at hgo
                    exact ⟨Z', S', sy, q', xi.trans x' q'.sz, es0, es1, by rw [List.length_set]; exact e2, ext_code qi x' hc, by rw [show n.toNat - (i + 1) = mm by omega]; exact hgo⟩
              · rintro σ HH ⟨Zi, Si, si, qi, xi, _, _, _, _, hgo⟩
                rw [Nat.sub_self] at hgo
                simp only [fwGo, Rs.ok.injEq] at hgo
                obtain ⟨rfl, rfl⟩ := hgo
                exact h _ Zi Si HH qi (x2.trans xi qi.sz) .non
            show wpAny _ _ (call (.ref gg) [ua, .ref f]) _ _ _
            refine wpAny_call (codeAny_mono rc fun rr s3 hq => ?_)
            cases rr with
            | error e => obtain ⟨_, _, _, _, _, _, _, _, _, _, _, _, z⟩ := hq; exact z.elim
            | ok fl =>
              cases fl with
              | ret u => exact J2.after hq
              | next => exact hq.elim
              | brk => exact hq.elim
              | cont => exact hq.elim
      | _ => exact h.elim
end
end Ms

set_option Elab.async false
set_option linter.all false
set_option autoImplicit false
set_option maxRecDepth 100000
set_option maxHeartbeats 1000000
namespace Ms
open PySem PySem.Spec L2 SX
open PyProof.Rows hiding St
/-! ## The checker: a term of the inner language tells what the row's text says -/
/-- names of the module -/
structure Cfg where
  fn : Nat → Option Str
  mks : Nat → Nat → Option Str
  xn : Nat → Option Str
  gn : Nat → Option Str
  fd : Nat → Option Str
  mt : Nat → Nat → Option Str
  bi : Str → Bool
  tr : Str → Option (List Nat)
  fw : Option Str
  wd : Option Str
  /-- tuples of texts of the module -/
  tg : Nat → Option Str
def gl (sc : Scope) (x : Str) : Bool := decide (sc.names.lookup x = some .globalImplicit)
def visB (N : List Str) (sc : Scope) (i : Nat) (x : Str) : Bool :=
  decide (N[i]? = some x) && (decide (sc.names.lookup x = some .local) || decide (sc.names.lookup x = some .cell) || decide (sc.names.lookup x = some .free)) && !(x == ("__debug__" : Str)) && !(x == ("__classdict__" : Str))
def kOk : Const → D → Bool
  | .none, .non => true
  | .bool b, .bl c => b == c
  | .int i, .int j => decide (i = j)
  | .str s, .str t => decide (s.cps.toList = t) && okSB t
  | _, _ => false
def opOk : BOp → Operator → Bool
  | .add, .Add => true
  | .sub, .Sub => true
  | .mul, .Mult => true
  | .fdiv, .FloorDiv => true
  | .mod, .Mod => true
  | .pow, .Pow => true
  | _, _ => false
def copOk : COp → CmpOp → Bool
  | .eq, .Eq => true
  | .ne, .NotEq => true
  | .lt, .Lt => true
  | .le, .LtE => true
  | .gt, .Gt => true
  | .ge, .GtE => true
  | .isin, .In => true
  | .notin, .NotIn => true
  | _, _ => false
/-- the built-in names that stand for a test or a making of one argument -/
def b1Name : B1 → Str
  | .len => "len"
  | .all => "all"
  | .any => "any"
  | .tuple => "tuple"
  | .str => "str"
  | .int => "int"
  | .ord => "ord"
def b1Has : B1 → Bool
  | .ord => false
  | _ => true
def tgB (N : List Str) (sc : Scope) (co : Bool) : Tg → Expr → Bool
  | .name i, .Name x _ => nameIs N sc co i x
  | .tup is, .Tuple es _ _ => namesAre N sc co is es
  | _, _ => false
def isTup : Expr → Bool
  | .Tuple _ _ _ => true
  | _ => false
/-- what cannot raise -/
def simpleE : E → Bool
  | .v _ => true
  | .k _ => true
  | .g _ => true
  | .ix a b => simpleE a && simpleE b
  | _ => false
def isD0 : D → Bool
  | .dct [] => true
  | _ => false
def isNilEs : Es → Bool
  | .nil => true
  | _ => false
def ownOf (N : List Str) (own : List Nat) : List (Str × Nat) := own.map fun i => (N.getD i "", i)
section
variable (c : Cfg)
mutual
def chkE (N : List Str) (sc : Scope) : E → Expr → Bool
  | .v i, x => (match x with
    | .Name n _ => visB N sc i n
    | _ => false)
  | .k d, x => (match x with
    | .Constant v _ _ => kOk v d
    | .Dict [] [] _ => isD0 d
    | _ => false)
  | .g j, x => (match x with
    | .Name n _ => decide (c.gn j = some n) && gl sc n
    | _ => false)
  | .bin o a b, x => (match x with
    | .BinOp l op r _ => opOk o op && chkE N sc a l && chkE N sc b r
    | _ => false)
  | .neg a, x => (match x with
    | .UnaryOp .USub y _ => chkE N sc a y
    | _ => false)
  | .cmp o a b, x => (match x with
    | .Compare l [op] [r] _ => copOk o op && !behindInMarks op r && chkE N sc a l && chkE N sc b r
    | _ => false)
  | .chain o p a b d, x => (match x with
    | .Compare l [op, op2] [m, r] _ => copOk o op && copOk p op2 && !lastMarks [op, op2] [m, r] && chkE N sc a l && chkE N sc b m && chkE N sc d r
    | _ => false)
  | .isN a, x => (match x with
    | .Compare l [.Is] [.Constant .none _ _] _ => chkE N sc a l
    | _ => false)
  | .notN a, x => (match x with
    | .Compare l [.IsNot] [.Constant .none _ _] _ => chkE N sc a l
    | _ => false)
  | .and a b, x => (match x with
    | .BoolOp .And [y, z] _ => chkE N sc a y && chkE N sc b z
    | .BoolOp .And (y :: z :: w :: r) p => chkE N sc a y && chkE N sc b (.BoolOp .And (z :: w :: r) p)
    | _ => false)
  | .or a b, x => (match x with
    | .BoolOp .Or [y, z] _ => chkE N sc a y && chkE N sc b z
    | .BoolOp .Or (y :: z :: w :: r) p => chkE N sc a y && chkE N sc b (.BoolOp .Or (z :: w :: r) p)
    | _ => false)
  | .not a, x => (match x with
    | .UnaryOp .Not y _ => chkE N sc a y
    | _ => false)
  | .ite t a b, x => (match x with
    | .IfExp u y z _ => chkE N sc t u && chkE N sc a y && chkE N sc b z
    | _ => false)
  | .call f as, x => (match x with
    | .Call (.Name n _) (y :: ys) [] _ => decide (c.fn f = some n) && gl sc n && allPlain (y :: ys) && chkEs N sc as (y :: ys)
    | .Call (.Name n _) [] [] _ => decide (c.fn f = some n) && gl sc n && isNilEs as
    | _ => false)
  | .dyn a as, x => (match x with
    | .Call (.Subscript o i p) (y :: ys) [] _ => chkE N sc a (.Subscript o i p) && allPlain (y :: ys) && chkEs N sc as (y :: ys)
    | _ => false)
  | .isin a t, x => (match x with
    | .Call (.Name n _) [y, .Name tn _] [] _ => decide (n = ("isinstance" : Str)) && gl sc n && c.bi n && !decide (t = .tupLst) && decide (tn = Str.ofString t.nm) && gl sc tn && c.bi tn && notStar y && chkE N sc a y
    | .Call (.Name n _) [y, .Tuple [.Name t1 _, .Name t2 _] _ _] [] _ => decide (n = ("isinstance" : Str)) && gl sc n && c.bi n && decide (t = .tupLst) && decide (t1 = ("tuple" : Str)) && decide (t2 = ("list" : Str)) && gl sc t1 && c.bi t1 && gl sc t2 && c.bi t2 && notStar y && chkE N sc a y
    | _ => false)
  | .b1 f a, x => (match x with
    | .Call (.Name n _) [y] [] _ => b1Has f && decide (n = b1Name f) && gl sc n && c.bi n && notStar y && chkE N sc a y
    | _ => false)
  | .m f o as, x => (match f, as, x with
    | .strip, .cons a .nil, .Call (.Attribute y n ap) [z] [] p => decide (n = ("strip" : Str)) && simpleE a && notStar z && noSuper y && (ap.endLine == p.line) && chkE N sc o y && chkE N sc a z
    | .index, .cons a .nil, .Call (.Attribute (.Name y _) n ap) [z] [] p => (match o with
      | .g j => decide (n = ("index" : Str)) && decide (c.tg j = some y) && gl sc y && notStar z && (ap.endLine == p.line) && chkE N sc a z
      | _ => false)
    | .join, .cons a .nil, .Call (.Attribute (.Constant (.str y) _ _) n ap) [z] [] p => (match o with
      | .k d => decide (n = ("join" : Str)) && kOk (.str y) d && notStar z && (ap.endLine == p.line) && chkE N sc a z
      | _ => false)
    | .upper, .nil, .Call (.Attribute y n ap) [] [] p => decide (n = ("upper" : Str)) && noSuper y && (ap.endLine == p.line) && chkE N sc o y
    | _, _, _ => false)
  | .b2 _ _ _, _ => false
  | .me k f o as, x => (match x with
    | .Call (.Attribute y n ap) ys [] p => decide (c.mt k f = some n) && noSuper y && (ap.endLine == p.line) && allPlain ys && decide (ys.length < 29) && chkE N sc o y && chkEs N sc as ys
    | _ => false)
  | .mk k f as, x => (match x with
    | .Call (.Name n _) (y :: ys) [] _ => decide (c.mks k f = some n) && gl sc n && allPlain (y :: ys) && chkEs N sc as (y :: ys)
    | _ => false)
  | .newL as, x => (match x with
    | .List ys _ => allPlain ys && chkEs N sc as ys
    | _ => false)
  | .fld o f, x => (match x with
    | .Attribute y n _ => decide (c.fd f = some n) && noSuper y && chkE N sc o y
    | _ => false)
  | .ix a b, x => (match x with
    | .Subscript y z _ => notSlice z && chkE N sc a y && chkE N sc b z
    | _ => false)
  | .sl a lo hi, x => (match x with
    | .Subscript y (.Slice l h none _) _ => chkE N sc a y && chkO N sc lo l && chkO N sc hi h
    | _ => false)
  | .tup as, x => (match x with
    | .Tuple ys _ _ => allPlain ys && chkEs N sc as ys
    | _ => false)
  | .fl f, x => chkF N sc f x
  | .fw _ _ _ _, _ => false
  | .lenO i, x => (match x with
    | .Call (.Name n _) [.Name y _] [] _ => decide (n = ("len" : Str)) && gl sc n && c.bi n && visB N sc i y
    | _ => false)
  | .inO neg a i, x => (match x with
    | .Compare y [.In] [.Name z _] _ => !neg && visB N sc i z && chkE N sc a y
    | .Compare y [.NotIn] [.Name z _] _ => neg && visB N sc i z && chkE N sc a y
    | _ => false)
  | .ixO i a, x => (match x with
    | .Subscript (.Name y _) z _ => visB N sc i y && notSlice z && chkE N sc a z
    | _ => false)
  | .pop a, x => (match x with
    | .Call (.Attribute y n ap) [] [] p => decide (n = ("pop" : Str)) && noSuper y && (ap.endLine == p.line) && chkE N sc a y
    | _ => false)
  | .bad, _ => true
def chkF (N : List Str) (sc : Scope) : F → Expr → Bool
  | .lst as, x => (match x with
    | .List ys _ => allPlain ys && chkEs N sc as ys
    | _ => false)
  | .cat a b, x => (match x with
    | .BinOp y .Add z _ => chkE N sc a y && chkE N sc b z
    | _ => false)
  | .rep a b, x => (match x with
    | .BinOp y .Mult z _ => chkE N sc a y && chkE N sc b z
    | _ => false)
  | .slc a lo hi, x => (match x with
    | .Subscript y (.Slice l h none _) _ => chkE N sc a y && chkO N sc lo l && chkO N sc hi h
    | _ => false)
  | .lc el tg it co own, x => (match x with
    | .ListComp y [⟨t, i, ifs, 0⟩] scope _ => blkC N sc scope (ownOf N own) && notSet i && tgB N (relS scope sc) false tg t && (tg.ix.all fun j => own.contains j) && chkIt N sc it i t && chkC N (relS scope sc) co ifs && chkE N (relS scope sc) el y
    | _ => false)
  | .list a, x => (match x with
    | .Call (.Name n _) [y] [] _ => decide (n = ("list" : Str)) && gl sc n && c.bi n && notStar y && chkE N sc a y
    | _ => false)
  | .split a b, x => (match x with
    | .Call (.Attribute y n ap) [z] [] p => decide (n = ("split" : Str)) && simpleE b && notStar z && noSuper y && (ap.endLine == p.line) && chkE N sc a y && chkE N sc b z
    | _ => false)
  | .srt a, x => (match x with
    | .Call (.Name n _) [y] [] _ => decide (n = ("sorted" : Str)) && gl sc n && c.bi n && notStar y && chkE N sc a y
    | _ => false)
def chkIt (N : List Str) (sc : Scope) : Src → Expr → Expr → Bool
  | .seq a, x, _ => chkE N sc a x
  | .rng1 a, x, _ => (match x with
    | .Call (.Name n _) [y] [] _ => decide (n = ("range" : Str)) && gl sc n && c.bi n && notStar y && chkE N sc a y
    | _ => false)
  | .rng2 a b, x, _ => (match x with
    | .Call (.Name n _) [y, z] [] _ => decide (n = ("range" : Str)) && gl sc n && c.bi n && notStar y && notStar z && chkE N sc a y && chkE N sc b z
    | _ => false)
  | .zip a b, x, t => (match x with
    | .Call (.Name n _) [y, z] [] _ => isTup t && decide (n = ("zip" : Str)) && gl sc n && c.bi n && notStar y && notStar z && chkE N sc a y && chkE N sc b z
    | _ => false)
  | .rev a, x, _ => (match x with
    | .Call (.Name n _) [y] [] _ => decide (n = ("reversed" : Str)) && gl sc n && c.bi n && notStar y && chkE N sc a y
    | _ => false)
def chkEs (N : List Str) (sc : Scope) : Es → List Expr → Bool
  | .nil, xs => (match xs with
    | [] => true
    | _ => false)
  | .cons a r, xs => (match xs with
    | x :: xs => notStar x && chkE N sc a x && chkEs N sc r xs
    | _ => false)
def chkO (N : List Str) (sc : Scope) : Oe → Option Expr → Bool
  | .none, x => (match x with
    | none => true
    | _ => false)
  | .some a, x => (match x with
    | some y => chkE N sc a y
    | _ => false)
def chkC (N : List Str) (sc : Scope) : Oe → List Expr → Bool
  | .none, xs => (match xs with
    | [] => true
    | _ => false)
  | .some a, xs => (match xs with
    | [y] => chkE N sc a y
    | _ => false)
end
end
end Ms

set_option Elab.async false
set_option linter.all false
set_option autoImplicit false
set_option maxRecDepth 100000
set_option maxHeartbeats 1000000
namespace Ms
open PySem PySem.Spec L2 SX
open PyProof.Rows hiding St
section
variable {g : Glob} {k : Nat} {N : List Str} {sc : Scope} {W : WX} {X : Cx} {Z Z' : Hp} {S S' : List Addr} {σ : L2.St} {H H' : Hp} {s s' : Sto} {e : Env} {b : Bs}
theorem der_int {s : Sto} {d : D} {i : Int} (h : der s d = .int i) : d = .int i := by
  have := der_obj h (fun _ q => nomatch q) (fun _ q => nomatch q)
  rw [← this]
theorem op_of (G : GoodX g k N sc W X) {o : BOp} {op : Operator} (h : opOk o op = true) : ∃ r, OpR X (binaryOp op) r ∧ Does2 g (fun a b _ => binop o a b) r := by
  cases o <;> cases op <;> first | (cases h; done) | skip
  · exact ⟨_, op_addU, does_add G⟩
  · exact ⟨_, op_sub, does_sub⟩
  · exact ⟨_, op_mulU, does_mulU G⟩
  · exact ⟨_, op_fdiv, does_fdiv⟩
  · exact ⟨_, op_mod, does_mod⟩
  · exact ⟨_, op_pow, does_pow⟩
/-- an order of ints -/
theorem ord_ints {o : COp} (ho : ∀ a b r, cmpop o a b = some r → ∃ i j, a = .int i ∧ b = .int j) {a b : D} {s : Sto} {d : D} (h : cmpB o a b s = some d) : ∃ i j, a = .int i ∧ b = .int j := by
  unfold cmpB at h
  cases c : cmpop o (der s a) (der s b) with
  | none => rw [c] at h; cases h
  | some r =>
    obtain ⟨i, j, h1, h2⟩ := ho _ _ _ c
    exact ⟨i, j, der_int h1, der_int h2⟩
theorem does_ord {o : COp} {r : R2} (ho : ∀ a b r, cmpop o a b = some r → ∃ i j, a = .int i ∧ b = .int j) (hd : Does2 g (fun a b s => match a, b with | .int _, .int _ => cmpB o a b s | _, _ => none) r) : Does2 g (cmpB o) r := by
  intro Z S H s x y a b d Q q hx hy hf hk
  obtain ⟨i, j, rfl, rfl⟩ := ord_ints ho hf
  exact hd Z S H s x y _ _ d Q q hx hy hf hk
theorem gt_ints (a b : D) (r : Bool) (h : cmpop .gt a b = some r) : ∃ i j, a = .int i ∧ b = .int j := by
  cases a <;> cases b <;> first | (simp [cmpop] at h; done) | exact ⟨_, _, rfl, rfl⟩
theorem ge_ints (a b : D) (r : Bool) (h : cmpop .ge a b = some r) : ∃ i j, a = .int i ∧ b = .int j := by
  cases a <;> cases b <;> first | (simp [cmpop] at h; done) | exact ⟨_, _, rfl, rfl⟩
theorem does_in (G : GoodX g k N sc W X) : Does2 g (cmpB .isin) (rInU X.K X.w false) := by
  intro Z S H s x y a b d Q q hx hy hf hk
  simp only [cmpB, cmpop] at hf
  cases c : isIn (der s a) (der s b) with
  | none => rw [c] at hf; cases hf
  | some r =>
    rw [c] at hf
    simp only [Option.map_some, Option.some.injEq] at hf
    subst hf
    exact is_in G q hx hy c (hk _ Z S H q .refl (by cases r <;> exact .bl _))
theorem does_nin (G : GoodX g k N sc W X) : Does2 g (cmpB .notin) (rInU X.K X.w true) := by
  intro Z S H s x y a b d Q q hx hy hf hk
  simp only [cmpB, cmpop] at hf
  cases c : isIn (der s a) (der s b) with
  | none => rw [c] at hf; cases hf
  | some r =>
    rw [c] at hf
    simp only [Option.map_some, Option.some.injEq] at hf
    subst hf
    exact is_in G q hx hy c (hk _ Z S H q .refl (by cases r <;> exact .bl _))
theorem cop_of (G : GoodX g k N sc W X) {o : COp} {op : CmpOp} (h : copOk o op = true) : ∃ r, OpR X (compareOp op) r ∧ Does2 g (cmpB o) r := by
  cases o <;> cases op <;> first | (cases h; done) | skip
  · exact ⟨_, op_eqD G.hu, does_eq G⟩
  · exact ⟨_, op_neD G.hu, does_ne G⟩
  · exact ⟨_, op_ltU (Nat.lt_of_le_of_lt (Nat.le_add_right _ _) G.hu), does_ltU G⟩
  · exact ⟨_, op_leU, does_leU⟩
  · exact ⟨_, op_gt, does_ord gt_ints does_gt⟩
  · exact ⟨_, op_ge, does_ord ge_ints does_ge⟩
  · exact ⟨_, op_inU G.hu, does_in G⟩
  · exact ⟨_, op_ninU G.hu, does_nin G⟩
end
end Ms
namespace Ms
open PySem PySem.Spec L2 SX
open PyProof.Rows hiding St
section
variable {g : Glob} {k : Nat} {N : List Str} {sc : Scope} {W : WX} {X : Cx}
theorem pe_b1E (G : GoodX g k N sc W X) {f : B1} {x : Expr} {p pos : Pos} {m : M} (hb : b1Has f = true) (hg : Gl X (b1Name f)) (hm : X.mg (b1Name f) = none) (ha : PE X x (tM g W m)) (hs : notStar x = true) :
    PE X (.Call (.Name (b1Name f) p) [x] [] pos) (tM g W fun e s => (m e s).bind fun x s => Rs.of (b1 f (der s x)) s) := by
  cases f with
  | len => exact pe_b1B call_lenU (does_len G) hg hm boot_len ha hs (by decide) (by decide)
  | all => exact pe_b1B (cr_all G.calm) (does_all G) hg hm boot_all ha hs (by decide) (by decide)
  | any => exact pe_b1B (cr_any G.calm) (does_any G) hg hm boot_any ha hs (by decide) (by decide)
  | tuple => exact pe_b1T call_tuple_of (does_tuple G) hg hm PyProof.Rows.boot_tuple ha hs (by decide) (by decide)
  | str => exact pe_b1T (CallR.or call_str_int SkE.call_str_str) (does_str G) hg hm PyProof.Rows.boot_str ha hs (by decide) (by decide)
  | int => exact pe_b1T call_int1 (does_int G) hg hm PyProof.Rows.boot_int ha hs (by decide) (by decide)
  | ord => cases hb
end
end Ms

set_option Elab.async false
set_option linter.all false
set_option autoImplicit false
set_option maxRecDepth 100000
set_option maxHeartbeats 4000000
namespace Ms
open PySem PySem.Spec L2 SX
open PyProof.Rows hiding St
/-- a tuple of texts of the module -/
structure TgOk (g : Glob) (j : Nat) (x : Str) : Prop where
  db : (x == ("__debug__" : Str)) = false
  at_ : ∃ (a : Addr) (o : Obj) (its : Array Value) (n : Nat) (ys : List (List Nat)), g.mg x = some (.ref a) ∧ g.K.lookup a = some o ∧ o.cls = .type "tuple" ∧ o.dict = none ∧ o.data = .seq its n ∧ its.size ≤ sizeLine ∧ Vals (ys.map strV) its.toList ∧ g.G j = .tup (ys.map D.str)
/-- what the module must bear for the checker's word -/
structure CfgOk (g : Glob) (k : Nat) (c : Cfg) : Prop where
  fn : ∀ f x, c.fn f = some x → g.mg x = some (.ref (g.fa f)) ∧ (x == ("__debug__" : Str)) = false ∧ FnAt g k f
  dy : ∀ f, g.dyf f = true → FnAt g k f
  mks : ∀ cc f x, c.mks cc f = some x → g.mg x = some (.ref (g.ca cc)) ∧ (x == ("__debug__" : Str)) = false ∧ MkOk g k cc f
  xn : ∀ cc x, c.xn cc = some x → g.mg x = some (.ref (g.xa cc)) ∧ (x == ("__debug__" : Str)) = false ∧ ExOk g cc
  gn : ∀ j x, c.gn j = some x → (x == ("__debug__" : Str)) = false ∧ ∃ u v, g.mg x = some u ∧ RelV v u ∧ ∀ Z S, Den g Z S v (g.G j)
  fd : ∀ f x, c.fd f = some x → x = g.fnm f ∧ ∀ cc, FldOk g cc f
  mt : ∀ cc f x, c.mt cc f = some x → MetOk g cc f x ∧ FnAt g k f
  bi : ∀ x, c.bi x = true → g.mg x = none
  tr : ∀ x cl, c.tr x = some cl → (x == ("__debug__" : Str)) = false ∧ ∃ cv, g.mg x = some cv ∧ ∀ cc, cc < 24 → PySem.W.exmOne g.K (.ref (g.xa cc)) cv = some (cl.contains cc)
  fw : ∀ x, c.fw = some x → ∃ gg, FwOk g x gg
  wd : ∀ x, c.wd = some x → ∃ f, WordOk g f x
  tg : ∀ j x, c.tg j = some x → TgOk g j x
section
variable {g : Glob} {k : Nat} {N : List Str} {sc : Scope} {W : WX} {X : Cx} {c : Cfg}
/-- a value, a test -/
structure OkE (g : Glob) (W : WX) (X : Cx) (x : Expr) (m : M) : Prop where
  pe : PE X x (tM g W m)
  pt : PT X x (tMb g W (mB m))
  pw : ∀ o vs p, x = .BoolOp o vs p → PW X x (tMb g W (mB m))
def isBool : Expr → Bool
  | .BoolOp _ _ _ => true
  | _ => false
theorem OkE.of {x : Expr} {m : M} (G : GoodX g k N sc W X) (h : PE X x (tM g W m)) (hb : isBool x = false) (he : ∀ whole, isTrue x X.env whole = (do let v ← whole; standAt x.pos; holding [v] (truthy v))) : OkE g W X x m :=
  ⟨h, pt_of G h he, fun o vs p e => by subst e; cases hb⟩
theorem OkE.of2 {x : Expr} {m : M} (h : PE X x (tM g W m)) (h2 : PT X x (tMb g W (mB m))) (hb : isBool x = false) : OkE g W X x m := ⟨h, h2, fun o vs p e => by subst e; cases hb⟩
theorem gl_of (G : GoodX g k N sc W X) {x : Str} (h : gl sc x = true) : Gl X x := by
  have : sc.names.lookup x = some .globalImplicit := of_decide_eq_true h
  show X.env.scope.names.lookup x = _
  rw [G.hsc]; exact this
theorem bi_of (K : CfgOk g k c) (G : GoodX g k N sc W X) {x : Str} (h : c.bi x = true) : X.mg x = none := by rw [G.hmg]; exact K.bi x h
theorem vis_of {i : Nat} {x : Str} (h : visB N sc i x = true) : N[i]? = some x ∧ Vis sc x ∧ (x == ("__debug__" : Str)) = false ∧ (x == ("__classdict__" : Str)) = false := by
  simp only [visB, Bool.and_eq_true, Bool.or_eq_true, decide_eq_true_eq, Bool.not_eq_true'] at h
  obtain ⟨⟨⟨h1, h2⟩, h3⟩, h4⟩ := h
  exact ⟨h1, h2.elim (fun h => h.elim .inl fun h => .inr (.inl h)) fun h => .inr (.inr h), h3, h4⟩
theorem k_of (G : GoodX g k N sc W X) {v : Const} {d : D} {j : Nat} {p : Pos} (h : kOk v d = true) : PE X (.Constant v j p) (tM g W fun _ s => .ok d s) := by
  cases v <;> cases d <;> simp only [kOk, Bool.and_eq_true, beq_iff_eq, decide_eq_true_eq] at h <;> first | (cases h; done) | skip
  · exact pe_kc G pe_non fun _ _ => .non
  · subst h; exact pe_kc G pe_bl fun _ _ => .bl _
  · subst h; exact pe_kc G pe_int fun _ _ => .int _
  · rename_i s t
    obtain ⟨rfl, h2⟩ := h
    refine pe_kc (v := strV s.cps.toList) G (PE.imp pe_str fun σ H Q q => ?_) fun _ _ => .str _ (fun c hc => of_decide_eq_true (List.all_eq_true.mp h2 c hc))
    have : strV s.cps.toList = V.str s := by unfold strV; cases s; simp
    rw [this] at q
    exact q
theorem bad_ok {x : Expr} : OkE g W X x fun _ _ => .bad := by
  refine ⟨⟨fun pins s σ H Q I h => ?_⟩, ⟨fun pins s σ H Q I h => ?_⟩, fun o vs p e => ⟨fun wh pins s σ H Q I h => ?_⟩⟩
  · obtain ⟨_, _, _, _, _, _, h⟩ := h; exact h.elim
  · obtain ⟨_, _, _, _, _, _, h⟩ := h; exact h.elim
  · obtain ⟨_, _, _, _, _, _, h⟩ := h; exact h.elim
end
end Ms

set_option Elab.async false
set_option linter.all false
set_option autoImplicit false
set_option maxRecDepth 100000
set_option maxHeartbeats 1000000
namespace Ms
open PySem PySem.Spec L2 SX
open PyProof.Rows hiding St
theorem meth_form {pos : Pos} {ys : List Expr} {env : PySem.Env} (hp : allPlain ys = true) (hn : ys.length < 29) : methodCallForm (ys.length + ([] : List Keyword).length) (backTo pos (starEach ys env)) (backToKw pos (keywordEach [] env)) = true := by
  have h1 := noStar_any (pos := pos) (env := env) hp
  have h2 : (backTo pos (starEach ys env)).all (fun x => !x.1) = true := by
    rw [List.all_eq_true]
    intro x hx
    rw [List.any_eq_false] at h1
    simpa using h1 x hx
  unfold methodCallForm
  rw [h2]
  have e : (backToKw pos (keywordEach [] env)) = [] := rfl
  rw [e]
  simp
  omega
theorem meth_ht {o : Expr} {nm : Str} {apos pos : Pos} {ys : List Expr} {env : PySem.Env} (hs : noSuper o = true) (hl : (apos.endLine == pos.line) = true) (hp : allPlain ys = true) (hn : ys.length < 29) :
    eval (.Call (.Attribute o nm apos) ys [] pos) env = (do
      let ov ← eval o env
      standAt apos.atName
      let (f, first) ← holding [ov] (getMethod ov nm (do return (← importBound o env).getD true))
      callWith pos f first (backTo pos (starEach ys env)) (backToKw pos (keywordEach [] env))) := by
  rw [arm_eval_Call, base_of hs]
  refine congrArg (fun z => eval o env >>= z) (funext fun ov => ?_)
  refine congrArg (fun z => standAt apos.atName >>= z) (funext fun _ => ?_)
  unfold methodCall
  rw [meth_form hp hn]
  unfold calleeOf methodCallPos
  rw [hl]
  rfl
section
variable {g : Glob} {N : List Str} {sc : Scope} {X : Cx}
theorem pg_of {co : Bool} (hc : X.calm = true) (hK : X.K = g.K) (hX : X.N = N) (nd : N.Nodup) (hsc : X.env.scope = sc) (hf : co = true → ∀ x, X.fn x = true) {tg : Tg} {t : Expr} (h : tgB N sc co tg t = true) : PG X t (tT g tg) := by
  cases tg with
  | name i =>
    cases t <;> simp only [tgB] at h <;> first | (cases h; done) | skip
    obtain ⟨h1, h2, h3⟩ := nameIs_of hsc hf h
    exact pg_nameE hX nd hsc h1 h2 h3
  | tup is =>
    cases t <;> simp only [tgB] at h <;> first | (cases h; done) | skip
    exact pg_tupE hc hK hX nd hsc hf h
end
end Ms

set_option Elab.async false
set_option linter.all false
set_option autoImplicit false
set_option maxRecDepth 100000
set_option maxHeartbeats 2000000
namespace Ms
open PySem PySem.Spec L2 SX
open PyProof.Rows hiding St
/-! ## methods of texts -/
theorem simple_ok {C : Calls} {GG : Nat → D} : ∀ {a : E}, simpleE a = true → ∀ (e : Env) (s : Sto), (∃ d, evE C GG a e s = .ok d s) ∨ evE C GG a e s = .bad
  | .v i, _, e, s => by
    simp only [evE]
    cases e.get i with
    | none => exact .inr rfl
    | some d => exact .inl ⟨d, rfl⟩
  | .k d, _, e, s => .inl ⟨d, by simp only [evE]⟩
  | .g j, _, e, s => .inl ⟨GG j, by simp only [evE]⟩
  | .ix a b, h, e, s => by
    unfold simpleE at h
    rw [Bool.and_eq_true] at h
    simp only [evE]
    rcases simple_ok (C := C) (GG := GG) h.1 e s with ⟨d, q⟩ | q
    · rw [q]
      simp only [Rs.bind_ok]
      rcases simple_ok (C := C) (GG := GG) h.2 e s with ⟨d2, q2⟩ | q2
      · rw [q2]
        simp only [Rs.bind_ok]
        cases index (der s d) d2 with
        | none => exact .inr rfl
        | some r => exact .inl ⟨r, rfl⟩
      · rw [q2]; exact .inr rfl
    · rw [q]; exact .inr rfl
theorem strip_eq (x t : List Nat) : Txt.stripChars ⟨x.toArray⟩ ⟨t.toArray⟩ = ⟨(stripC t x).toArray⟩ := by
  have e : (⟨x.toArray⟩ : Str).length = x.length := by simp [Str.length]
  have ec : (⟨t.toArray⟩ : Str).cps.contains = fun c => t.contains c := by funext c; simp
  have key : stripped ((⟨t.toArray⟩ : Str).cps.contains) true true ⟨x.toArray⟩ = ⟨(stripC t x).toArray⟩ := by
    unfold stripped
    rw [strSub_mk, ec]
    unfold stripLo stripHi stripC
    simp only [if_true, e]
  unfold Txt.stripChars Txt.stripBy
  split
  · rename_i h
    unfold stripSame at h
    simp only [Bool.and_eq_true, beq_iff_eq] at h
    obtain ⟨h1, h2⟩ := h
    rw [← key]
    unfold stripped
    rw [h2, h1, strSub_mk, e]
    simp
  · exact key
theorem okS_strip {x t : List Nat} (h : okS x) : okS (stripC t x) := fun c hc => by
  unfold stripC at hc
  exact h c (List.mem_of_mem_drop (List.mem_of_mem_take hc))
section
variable {g : Glob} {k : Nat} {N : List Str} {sc : Scope} {W : WX} {X : Cx} {Z Z' : Hp} {S S' : List Addr} {σ : L2.St} {H H' : Hp} {s s' : Sto} {e : Env} {b : Bs}
theorem str_form {x y d : D} (h : meth .strip x [y] = some d) : ∃ a t, x = .str a ∧ y = .str t ∧ a.length ≤ lim ∧ d = .str (stripC t a) := by
  cases x <;> cases y <;> first | (simp [meth] at h; done) | skip
  rename_i a t
  simp only [meth] at h
  split at h
  · rename_i q
    exact ⟨a, t, rfl, rfl, of_decide_eq_true q, (Option.some.inj h).symm⟩
  · cases h
theorem der_str {s : Sto} {d : D} {x : List Nat} (h : der s d = .str x) : d = .str x := by
  have := der_obj h (fun _ q => nomatch q) (fun _ q => nomatch q)
  rw [← this]
theorem pe_strip {o y : Expr} {apos pos : Pos} {m1 m2 : M} (ho : PE X o (tM g W m1)) (hy : PE X y (tM g W m2)) (h2 : ∀ e s, (∃ d, m2 e s = .ok d s) ∨ m2 e s = .bad) (hs : notStar y = true) (hb : noSuper o = true) (hl : (apos.endLine == pos.line) = true) :
    PE X (.Call (.Attribute o "strip" apos) [y] [] pos) (tM g W fun e s => (m1 e s).bind fun x s => (m2 e s).bind fun z s => Rs.of (meth .strip (der s x) [der s z]) s) := by
  refine PE.imp (pe_m1 PySem.F.slot_str_strip PySem.F.type_str_strip mt_stripChars ho hy (star1 hs) (base_of hb) hl) ?_
  intro σ H Q h
  obtain ⟨b, Z, S, e, s, R, h⟩ := tM_iff.mp h
  refine stepE R h fun d s1 v Z1 S1 H1 h' R1 x1 dn => ⟨?_, ?_⟩
  · clear h
    have h := h'
    rcases h2 e s1 with ⟨d2, q⟩ | q
    · rw [q] at h
      cases c : meth .strip (der s1 d) [der s1 d2] with
      | none => simp only [Rs.bind_ok, c] at h; exact h.elim
      | some r =>
        obtain ⟨a, t, e1, _⟩ := str_form c
        have := der_str e1
        subst this
        cases dn
        exact ⟨_, rfl⟩
    · rw [q] at h; exact h.elim
  · refine stepE R1 h' fun d2 s2 v2 Z2 S2 H2 h R2 x2 dn2 => ?_
    cases c : meth .strip (der s2 d) [der s2 d2] with
    | none => simp only [c] at h; exact h.elim
    | some r =>
      rw [c] at h
      obtain ⟨a, t, e1, e2, hlim, rfl⟩ := str_form c
      have := der_str e1
      subst this
      have := der_str e2
      subst this
      cases dn with
      | str _ oka =>
        cases dn2 with
        | str _ okt =>
          refine ⟨_, _, rfl, rfl, by simpa [Str.length, lim_line] using hlim, ?_⟩
          have := h (strV (stripC t a)) Z2 S2 H2 R2.sto .refl (.str _ (okS_strip oka))
          rw [strip_eq]
          exact this
end
end Ms

set_option Elab.async false
set_option linter.all false
set_option autoImplicit false
set_option maxRecDepth 100000
set_option maxHeartbeats 2000000
namespace Ms
open PySem PySem.Spec L2 SX
open PyProof.Rows hiding St
/-! ## More rules: calls without arguments, sorted, join, upper, index of a tuple of the module -/
section
variable {g : Glob} {k : Nat} {N : List Str} {sc : Scope} {W : WX} {X : Cx} {Z Z' : Hp} {S S' : List Addr} {σ : L2.St} {H H' : Hp} {s s' : Sto} {e : Env} {b : Bs}
theorem pe_call0E (G : GoodX g k N sc W X) {f : Nat} {x : Str} {p pos : Pos} (F : FnAt g k f) (hg : Gl X x) (hm : X.mg x = some (.ref (g.fa f))) (hdb : (x == ("__debug__" : Str)) = false) :
    PE X (.Call (.Name x p) [] [] pos) (tM g W fun _ s => callK g.G g.T k f [] s) := by
  obtain ⟨fd, ps, F, hk, hb⟩ := F.at G
  refine ⟨fun pins s σ H Q I h => ?_⟩
  obtain ⟨b, Z, S, e, s0, R, h⟩ := tM_iff.mp h
  refine wpAny_Call_Name_kw (ld_glob I hg hm ?_ hdb)
  exact PySem.W.callWith_K0 I.kIn hk (run_fnS (us := []) (vs := []) F G.r0 hb (L2N.passAt G.tk σ) I .nil (spec_of R.sto .nil h))
/-! ### sorted texts -/
theorem strs_of {vs : List V} {ds : List D} : DenL g Z S vs ds → ∀ {ys : List (List Nat)}, strsOf ds = some ys → vs = ys.map strV ∧ ∀ y ∈ ys, okS y
  | .nil, ys, h => by simp only [strsOf, Option.some.injEq] at h; subst h; exact ⟨rfl, fun y hy => by cases hy⟩
  | .cons (d := d) (ds := ds') hd r, ys, h => by
    cases hd with
    | str x hx =>
      simp only [strsOf] at h
      cases hr : strsOf ds' with
      | none => rw [hr] at h; cases h
      | some zs =>
        rw [hr] at h
        simp only [Option.map_some, Option.some.injEq] at h
        subst h
        obtain ⟨e, o⟩ := strs_of r hr
        refine ⟨by rw [e]; rfl, fun y hy => ?_⟩
        rcases List.mem_cons.mp hy with q | q
        · rw [q]; exact hx
        · exact o y q
    | _ => simp [strsOf] at h
theorem den_strs : ∀ {ys : List (List Nat)}, (∀ y ∈ ys, okS y) → DenL g Z S (ys.map strV) (ys.map D.str)
  | [], _ => .nil
  | y :: ys, h => .cons (.str y (h y List.mem_cons_self)) (den_strs fun z hz => h z (List.mem_cons_of_mem _ hz))
theorem ltL_cps : ∀ (x y : List Nat), ltL x y = PySem.Spec.ltCps x y
  | [], [] => rfl
  | [], _ :: _ => rfl
  | _ :: _, [] => rfl
  | x :: xs, y :: ys => by
    unfold ltL PySem.Spec.ltCps
    rw [ltL_cps xs ys]
theorem ltL_irr : ∀ x, ltL x x = false
  | [] => rfl
  | x :: xs => by simp [ltL, ltL_irr xs]
theorem ltL_tri : ∀ x y, ltL x y = false → ltL y x = false → x = y
  | [], [], _, _ => rfl
  | [], _ :: _, h, _ => by simp [ltL] at h
  | _ :: _, [], _, h => by simp [ltL] at h
  | x :: xs, y :: ys, h1, h2 => by
    simp only [ltL, Bool.or_eq_false_iff, decide_eq_false_iff_not, Bool.and_eq_false_iff, beq_eq_false_iff_ne] at h1 h2
    have e : x = y := by omega
    subst e
    rcases h1.2 with q | q
    · exact absurd rfl q
    · rcases h2.2 with q2 | q2
      · exact absurd rfl q2
      · rw [ltL_tri xs ys q q2]
theorem ltL_trans : ∀ x y z, ltL x y = true → ltL y z = true → ltL x z = true
  | [], [], _, h, _ => by simp [ltL] at h
  | [], _ :: _, [], _, h => by simp [ltL] at h
  | [], _ :: _, _ :: _, _, _ => rfl
  | _ :: _, [], _, h, _ => by simp [ltL] at h
  | _ :: _, _ :: _, [], _, h => by simp [ltL] at h
  | x :: xs, y :: ys, z :: zs, h1, h2 => by
    simp only [ltL, Bool.or_eq_true, decide_eq_true_eq, Bool.and_eq_true, beq_iff_eq] at h1 h2 ⊢
    rcases h1 with q | ⟨q, q'⟩ <;> rcases h2 with r | ⟨r, r'⟩
    · exact .inl (by omega)
    · exact .inl (by omega)
    · exact .inl (by omega)
    · exact .inr ⟨by omega, ltL_trans xs ys zs q' r'⟩
/-- not above -/
def leL (x y : List Nat) : Prop := ltL y x = false
theorem leL_trans {x y z : List Nat} (h1 : leL x y) (h2 : leL y z) : leL x z := by
  unfold leL at *
  cases c : ltL z x with
  | false => rfl
  | true =>
    cases d : ltL x y with
    | true => rw [ltL_trans z x y c d] at h2; cases h2
    | false =>
      have := ltL_tri x y d h1
      subst this
      rw [c] at h2; cases h2
theorem leL_total (x y : List Nat) : leL x y ∨ leL y x := by
  unfold leL
  cases c : ltL y x with
  | false => exact .inl rfl
  | true =>
    right
    cases d : ltL x y with
    | false => rfl
    | true =>
      have := ltL_trans x y x d c
      rw [ltL_irr] at this; cases this
theorem ins_perm (x : List Nat) : ∀ l, (insS x l).Perm (x :: l)
  | [] => .refl _
  | y :: r => by
    unfold insS
    split
    · exact .refl _
    · exact (List.Perm.cons y (ins_perm x r)).trans (List.Perm.swap x y r)
theorem sort_perm : ∀ l, (sortC l).Perm l
  | [] => .refl _
  | x :: l => (ins_perm x _).trans (List.Perm.cons x (sort_perm l))
theorem ins_sorted (x : List Nat) : ∀ l, l.Pairwise leL → (insS x l).Pairwise leL
  | [], _ => by simp [insS]
  | y :: r, h => by
    obtain ⟨h1, h2⟩ := List.pairwise_cons.mp h
    unfold insS
    split
    · rename_i c
      have xy : leL x y := by
        rcases leL_total x y with q | q
        · exact q
        · unfold leL at q; rw [c] at q; cases q
      exact List.pairwise_cons.mpr ⟨fun z hz => (List.mem_cons.mp hz).elim (fun e => by rw [e]; exact xy) fun hz => leL_trans xy (h1 z hz), h⟩
    · rename_i c
      refine List.pairwise_cons.mpr ⟨fun z hz => ?_, ins_sorted x r h2⟩
      have := (ins_perm x r).mem_iff.mp hz
      rcases List.mem_cons.mp this with e | e
      · rw [e]; unfold leL; simpa using c
      · exact h1 z e
theorem sort_sorted : ∀ l, (sortC l).Pairwise leL
  | [] => List.Pairwise.nil
  | x :: l => ins_sorted x _ (sort_sorted l)
theorem rising_pw : ∀ (l : List Str) (p : Str), PyProof.Rows.risingS p l = true → (∀ x ∈ l, leL p.cps.toList x.cps.toList) ∧ (l.map fun x => x.cps.toList).Pairwise leL
  | [], p, _ => ⟨fun x hx => (by cases hx), List.Pairwise.nil⟩
  | x :: r, p, h => by
    unfold PyProof.Rows.risingS at h
    rw [Bool.and_eq_true] at h
    obtain ⟨h1, h2⟩ := rising_pw r x h.2
    have hpx : leL p.cps.toList x.cps.toList := by
      unfold leL; rw [ltL_cps]; simpa using h.1
    refine ⟨fun y hy => (List.mem_cons.mp hy).elim (fun e => by rw [e]; exact hpx) fun hy => leL_trans hpx (h1 y hy), ?_⟩
    rw [List.map_cons]
    exact List.pairwise_cons.mpr ⟨fun z hz => by obtain ⟨y, hy, rfl⟩ := List.mem_map.mp hz; exact h1 y hy, h2⟩
theorem sortedS_pw {l : List Str} (h : PyProof.Rows.sortedS l = true) : (l.map fun x => x.cps.toList).Pairwise leL := by
  cases l with
  | nil => exact List.Pairwise.nil
  | cons x r =>
    obtain ⟨h1, h2⟩ := rising_pw r x h
    rw [List.map_cons]
    exact List.pairwise_cons.mpr ⟨fun z hz => by obtain ⟨y, hy, rfl⟩ := List.mem_map.mp hz; exact h1 y hy, h2⟩
theorem sort_uniq {ys : List Str} {l : List (List Nat)} (h1 : ys.Perm (l.map fun x => (⟨x.toArray⟩ : Str))) (h2 : PyProof.Rows.sortedS ys = true) : ys = (sortC l).map fun x => (⟨x.toArray⟩ : Str) := by
  have p1 : (ys.map fun x => x.cps.toList).Perm l := by
    have := h1.map fun x => x.cps.toList
    rw [List.map_map] at this
    have e : ((fun x : Str => x.cps.toList) ∘ fun x : List Nat => (⟨x.toArray⟩ : Str)) = id := by funext x; simp
    rwa [e, List.map_id] at this
  have e := List.Perm.eq_of_pairwise (le := leL) (fun a b _ _ q r => ltL_tri a b r q) (sortedS_pw h2) (sort_sorted l) (p1.trans (sort_perm l).symm)
  rw [← e, List.map_map]
  have : ((fun x : List Nat => (⟨x.toArray⟩ : Str)) ∘ fun x : Str => x.cps.toList) = id := by funext x; cases x; simp
  rw [this, List.map_id]
theorem pf_srt {x : Expr} {p pos : Pos} {m : M} (hg : Gl X "sorted") (hm : X.mg "sorted" = none) (ha : PE X x (tM g W m)) (hs : notStar x = true) :
    PE X (.Call (.Name "sorted" p) [x] [] pos) (tMf g W fun e s => (m e s).bind fun x s => Rs.of (sortV (der s x)) s) := by
  refine PE.imp (pe_callB cr_sortedS hg hm (by decide +kernel) (pa_cons ha pa_nil (star1 hs)) (by decide) (by decide) (star1 hs) rfl) ?_
  intro σ H Q h
  obtain ⟨b, Z, S, e, s, R, h⟩ := tMf_iff.mp h
  refine stepEF R h fun d s1 v Z1 S1 H1 h R1 _ dn => ?_
  cases e1 : der s1 d with
  | lst l =>
    rw [e1] at h
    simp only [sortV] at h
    obtain ⟨a1, vs, rfl, h1, r1⟩ := lst_of R1.sto dn e1
    split at h
    · rename_i hl
      cases hys : strsOf l with
      | none => rw [hys] at h; exact h.elim
      | some ys =>
        rw [hys] at h
        obtain ⟨ev, ok⟩ := strs_of r1 hys
        subst ev
        have hlen : ys.length < 64 := by
          have := r1.length
          rw [List.length_map] at this
          rw [this]; exact of_decide_eq_true hl
        refine ⟨a1, ys.map (fun y => (⟨y.toArray⟩ : Str)), rfl, ?_, by rw [List.length_map]; exact hlen, fun zs p hp hz n => ?_⟩
        · rw [List.map_map]; exact SqL.of h1
        · have := sort_uniq hp hz
          subst this
          rw [List.map_map]
          obtain ⟨q1, x1, zp, ns⟩ := layO R1.sto n (notTbl_lst (((sortC ys).map strV)))
          exact h p _ _ _ _ q1 x1 upd_same (den_strs fun y hy => ok y ((sort_perm ys).mem_iff.mp hy)) n zp ns
    · exact h.elim
  | _ => rw [e1] at h; exact h.elim
/-! ### list * int -/
theorem pf_rep {x y : Expr} {pos : Pos} {m1 m2 : M} (ha : PE X x (tM g W m1)) (hb : PE X y (tM g W m2)) :
    PE X (.BinOp x .Mult y pos) (tMf g W fun e s => (m1 e s).bind fun x s => (m2 e s).bind fun y s => Rs.of (repL (der s x) y) s) := by
  refine PE.imp (pe_op op_rep ha hb) ?_
  intro σ H Q h
  obtain ⟨b, Z, S, e, s, R, h⟩ := tMf_iff.mp h
  refine stepEF R h fun d s1 v Z1 S1 H1 h R1 _ dn => ?_
  refine stepEF R1 h fun d2 s2 v2 Z2 S2 H2 h R2 x2 dn2 => ?_
  have dn := x2.den dn
  cases e1 : der s2 d with
  | lst l1 =>
    rw [e1] at h
    cases dn2 with
    | int j =>
      simp only [repL] at h
      split at h
      · rename_i c
        simp only [Bool.and_eq_true, decide_eq_true_eq] at c
        obtain ⟨c0, c1, c2⟩ := c
        obtain ⟨a1, vs, rfl, h1, r1⟩ := lst_of R2.sto dn e1
        have hsz : vs.length * j.toNat ≤ sizeLine := by
          rw [r1.length, sizeLine_eq]
          have : l1.length * j.toNat ≤ 1000 * 1000 := Nat.mul_le_mul c2 (by omega)
          omega
        refine ⟨a1, j, vs, rfl, rfl, h1, by omega, by omega, hsz, fun p n => ?_⟩
        obtain ⟨q1, x1, zp, ns⟩ := layO R2.sto n (notTbl_lst (List.replicate j.toNat vs).flatten)
        exact h p _ _ _ _ q1 x1 upd_same (denRep r1 _) n zp ns
      · exact h.elim
    | _ => exact h.elim
  | _ => rw [e1] at h; exact h.elim
/-! ### {} -/
theorem pe_d0 {pos : Pos} : PE X (.Dict [] [] pos) (tM g W fun _ s => .ok (.dct []) s) := by
  refine PE.imp pe_dnewK ?_
  rintro σ H Q ⟨b, Z, S, e, s, R, h⟩ p n
  obtain ⟨q1, x1⟩ := lay R.sto n (notTbl_dK [])
  exact h _ _ _ _ q1 x1 (.dct upd_same .nil)
/-! ### TRAITS.index(x) -/
theorem findS_at {x : List Nat} : ∀ {ys : List (List Nat)} {k : Nat}, findS x ys = some k → ys[k]? = some x ∧ ∀ m, m < k → ys[m]? ≠ some x
  | [], k, h => by cases h
  | y :: r, k, h => by
    unfold findS at h
    split at h
    · rename_i e
      simp only [Option.some.injEq] at h
      subst h e
      exact ⟨rfl, fun m hm => absurd hm (Nat.not_lt_zero _)⟩
    · rename_i e
      cases c : findS x r with
      | none => rw [c] at h; cases h
      | some j =>
        rw [c] at h
        simp only [Option.map_some, Option.some.injEq] at h
        subst h
        obtain ⟨h1, h2⟩ := findS_at c
        refine ⟨by simpa using h1, fun m hm => ?_⟩
        cases m with
        | zero => intro q; simp at q; exact e q
        | succ m => simpa using h2 m (by omega)
theorem strsOf_map : ∀ (ys : List (List Nat)), strsOf (ys.map D.str) = some ys
  | [] => rfl
  | y :: ys => by simp [strsOf, strsOf_map ys]
theorem strV_eq {a b : List Nat} (h : (⟨a.toArray⟩ : Str) = ⟨b.toArray⟩) : a = b := by
  injection h with h
  simpa using h
theorem pe_indexG (G : GoodX g k N sc W X) {j : Nat} {x : Str} (T : TgOk g j x) {y : Expr} {np apos pos : Pos} {m : M} (hg : Gl X x) (hy : PE X y (tM g W m)) (hs : notStar y = true) (hl : (apos.endLine == pos.line) = true) :
    PE X (.Call (.Attribute (.Name x np) "index" apos) [y] [] pos) (tM g W fun e s => (m e s).bind fun z s => Rs.of (meth .index (g.G j) [der s z]) s) := by
  obtain ⟨a, o, its, n, ys, hm, lk, oc, od, ot, hsz, vals, hG⟩ := T.at_
  have ho : PE X (.Name x np) (tC (.ref a)) := pe_glob (v := .ref a) hg (by rw [G.hmg]; exact hm) rfl T.db
  refine PE.imp (pe_bm (T := "tuple") PySem.F.plainAttrs_tuple PySem.F.slot_tuple_index PySem.F.type_tuple_index mt_tup_index ho (pa_cons hy pa_nil (star1 hs)) rfl (few1 hs) hl (star1 hs) rfl) ?_
  intro σ H Q h
  obtain ⟨b, Z, S, e, s, R, h⟩ := tM_iff.mp h
  refine ⟨.inr (.inl ⟨rfl, o, by rw [G.hK]; exact lk, oc, od⟩), ?_⟩
  refine stepE R h fun d s1 v Z1 S1 H1 h R1 x1 dn => ?_
  rw [hG] at h
  cases c : meth .index (.tup (ys.map D.str)) [der s1 d] with
  | none => rw [c] at h; exact h.elim
  | some r =>
    rw [c] at h
    have hz : ∃ z, der s1 d = .str z := by
      cases q : der s1 d with
      | str z => exact ⟨z, rfl⟩
      | _ => rw [q] at c; simp [meth] at c
    obtain ⟨z, hz⟩ := hz
    rw [hz] at c
    have := der_str hz
    subst this
    simp only [meth, strsOf_map, Option.bind_some] at c
    cases f : findS z ys with
    | none => rw [f] at c; cases c
    | some i =>
      rw [f] at c
      have c : D.int (i : Int) = r := Option.some.inj c
      subst c
      obtain ⟨f1, f2⟩ := findS_at f
      cases dn with
      | str _ okz =>
        refine ⟨a, ys.map (fun y => (⟨y.toArray⟩ : Str)), ⟨z.toArray⟩, i, rfl, rfl, ?_, by rw [List.getElem?_map, f1]; rfl, fun m hm q => ?_, ?_⟩
        · rw [List.map_map]
          exact .inr ⟨o, its, n, by rw [G.hK]; exact lk, oc, ot, hsz, vals⟩
        · rw [List.getElem?_map] at q
          cases c2 : ys[m]? with
          | none => rw [c2] at q; cases q
          | some w =>
            rw [c2] at q
            simp only [Option.map_some, Option.some.injEq] at q
            exact f2 m hm (by rw [c2, strV_eq q])
        · exact h _ Z1 S1 H1 R1.sto .refl (.int _)
/-! ### " ".join(xs) -/
theorem glued_arr (sep : Str) : ∀ (xs : List (List Nat)) (acc : List Nat), ((xs.map fun y => (⟨y.toArray⟩ : Str)).foldl (fun acc p => acc ++ sep.cps ++ p.cps) acc.toArray) = (acc ++ (xs.flatMap fun y => sep.cps.toList ++ y)).toArray
  | [], acc => by simp
  | x :: xs, acc => by
    rw [List.map_cons, List.foldl_cons]
    have e : (acc.toArray ++ sep.cps ++ (⟨x.toArray⟩ : Str).cps) = (acc ++ sep.cps.toList ++ x).toArray := by apply Array.ext'; simp
    rw [e, glued_arr sep xs]
    simp [List.append_assoc]
theorem joinC_cons (sep : List Nat) : ∀ (x : List Nat) (xs : List (List Nat)), joinC sep (x :: xs) = x ++ xs.flatMap fun y => sep ++ y
  | x, [] => by simp [joinC]
  | x, y :: r => by
    rw [joinC, joinC_cons sep y r]
    simp [List.append_assoc]
theorem join_eq (sep : List Nat) (xs : List (List Nat)) : Txt.join ⟨sep.toArray⟩ (xs.map fun y => (⟨y.toArray⟩ : Str)) = ⟨(joinC sep xs).toArray⟩ := by
  show Builtin.Str.glued _ _ = _
  unfold Builtin.Str.glued
  cases xs with
  | nil => rfl
  | cons x xs =>
    rw [joinC_cons]
    simp only [List.map_cons, List.drop_succ_cons, List.drop_zero, List.headD_cons]
    rw [glued_arr]
theorem okS_join {sep : List Nat} (h : okS sep) {xs : List (List Nat)} (hx : ∀ x ∈ xs, okS x) : okS (joinC sep xs) := by
  cases xs with
  | nil => intro c hc; simp [joinC] at hc
  | cons x xs =>
    rw [joinC_cons]
    refine okS_app (hx x List.mem_cons_self) fun c hc => ?_
    obtain ⟨y, hy, hc⟩ := List.mem_flatMap.mp hc
    rcases List.mem_append.mp hc with q | q
    · exact h c q
    · exact hx y (List.mem_cons_of_mem _ hy) c q
theorem pe_joinE (G : GoodX g k N sc W X) {o y : Expr} {apos pos : Pos} {t : List Nat} {m : M} (ho : PE X o (tC (strV t))) (ht : okS t) (hy : PE X y (tM g W m)) (hb : noSuper o = true) (hs : notStar y = true) (hl : (apos.endLine == pos.line) = true) :
    PE X (.Call (.Attribute o "join" apos) [y] [] pos) (tM g W fun e s => (m e s).bind fun z s => Rs.of (meth .join (.str t) [der s z]) s) := by
  refine PE.imp (pe_m1 PySem.F.slot_str_join PySem.F.type_str_join mt_join ho hy (star1 hs) (base_of hb) hl) ?_
  intro σ H Q h
  refine ⟨⟨_, rfl⟩, ?_⟩
  obtain ⟨b, Z, S, e, s, R, h⟩ := tM_iff.mp h
  refine stepE R h fun d s1 v Z1 S1 H1 h R1 x1 dn => ?_
  cases c : meth .join (.str t) [der s1 d] with
  | none => rw [c] at h; exact h.elim
  | some r =>
    rw [c] at h
    cases q : der s1 d with
    | lst l =>
      rw [q] at c
      simp only [meth] at c
      cases hys : strsOf l with
      | none => rw [hys] at c; cases c
      | some ys =>
        rw [hys] at c
        simp only [Option.bind_some] at c
        split at c
        · rename_i hlim
          simp only [Option.some.injEq] at c
          subst c
          obtain ⟨a1, vs, rfl, h1, r1⟩ := lst_of R1.sto dn q
          obtain ⟨ev, ok⟩ := strs_of r1 hys
          subst ev
          refine ⟨⟨t.toArray⟩, a1, ys.map (fun y => (⟨y.toArray⟩ : Str)), rfl, rfl, .inl ?_, ?_, ?_⟩
          · rw [List.map_map]; exact SqL.of h1
          · have := of_decide_eq_true hlim
            rw [List.map_map, List.length_map]
            have e : ((fun x : Str => x.length) ∘ fun y : List Nat => (⟨y.toArray⟩ : Str)) = List.length := by funext y; simp [Str.length]
            rw [e]
            simpa [Str.length, lim] using this
          · rw [join_eq]
            exact h _ Z1 S1 H1 R1.sto .refl (.str _ (okS_join ht ok))
        · cases c
    | _ => rw [q] at c; simp [meth] at c
/-! ### x.split(c) -/
theorem spl_one {c : Nat} : ∀ {p : List Nat}, c ∉ p → splitC c p = [p]
  | [], _ => rfl
  | x :: p, h => by
    have h1 : x ≠ c := fun e => h (by rw [e]; exact List.mem_cons_self)
    have h2 : c ∉ p := fun m => h (List.mem_cons_of_mem _ m)
    unfold splitC
    rw [if_neg h1, spl_one h2]
theorem spl_app {c : Nat} {r : List Nat} : ∀ {p : List Nat}, c ∉ p → splitC c (p ++ c :: r) = p :: splitC c r
  | [], _ => by
    show splitC c (c :: r) = _
    rw [splitC, if_pos rfl]
  | x :: p, h => by
    have h1 : x ≠ c := fun e => h (by rw [e]; exact List.mem_cons_self)
    have h2 : c ∉ p := fun m => h (List.mem_cons_of_mem _ m)
    show splitC c (x :: (p ++ c :: r)) = _
    rw [splitC, if_neg h1, spl_app h2]
theorem spl_join {c : Nat} : ∀ {ps : List (List Nat)}, ps ≠ [] → (∀ p ∈ ps, c ∉ p) → splitC c (joinC [c] ps) = ps
  | [p], _, h => spl_one (h p List.mem_cons_self)
  | p :: q :: r, _, h => by
    have ih := spl_join (c := c) (ps := q :: r) (by simp) fun z hz => h z (List.mem_cons_of_mem _ hz)
    show splitC c (p ++ ([c] ++ joinC [c] (q :: r))) = _
    rw [List.singleton_append, spl_app (h p List.mem_cons_self), ih]
theorem split_eq (x : List Nat) (c : Nat) : Txt.split ⟨x.toArray⟩ ⟨#[c]⟩ = (splitC c x).map fun y => (⟨y.toArray⟩ : Str) := by
  have h1 := StrLaws.join_split ⟨x.toArray⟩ ⟨#[c]⟩
  have h2 := StrLaws.split_free ⟨x.toArray⟩ c
  have h3 := PyProof.Rows.split_pos ⟨x.toArray⟩ ⟨#[c]⟩
  generalize hs : Txt.split ⟨x.toArray⟩ ⟨#[c]⟩ = ps at h1 h2 h3
  have e : ps = (ps.map fun p => p.cps.toList).map fun y => (⟨y.toArray⟩ : Str) := by
    rw [List.map_map]
    have : ((fun y : List Nat => (⟨y.toArray⟩ : Str)) ∘ fun p : Str => p.cps.toList) = id := by funext z; cases z; simp
    rw [this, List.map_id]
  rw [← StrLaws.glued_eq_join] at h1
  rw [e] at h1
  have h4 := join_eq [c] (ps.map fun p => p.cps.toList)
  have h5 : (⟨(joinC [c] (ps.map fun p => p.cps.toList)).toArray⟩ : Str) = ⟨x.toArray⟩ := h4.symm.trans h1
  have h6 := strV_eq h5
  rw [e, ← h6, spl_join]
  · intro q
    have : ps = [] := List.map_eq_nil_iff.mp q
    rw [this] at h3
    simp at h3
  · intro p hp
    obtain ⟨z, hz, rfl⟩ := List.mem_map.mp hp
    exact h2 z hz
theorem okS_split {c : Nat} : ∀ {x : List Nat}, okS x → ∀ p ∈ splitC c x, okS p
  | [], _, p, hp => by
    simp only [splitC, List.mem_singleton] at hp
    subst hp
    exact fun c hc => by cases hc
  | y :: x, h, p, hp => by
    have hx : okS x := fun z hz => h z (List.mem_cons_of_mem _ hz)
    have ih := okS_split (c := c) hx
    unfold splitC at hp
    split at hp
    · rcases List.mem_cons.mp hp with q | q
      · subst q; exact fun c hc => by cases hc
      · exact ih p q
    · split at hp
      · simp only [List.mem_singleton] at hp
        subst hp
        exact fun z hz => h z (by rw [List.mem_singleton.mp hz]; exact List.mem_cons_self)
      · rename_i q r hr
        rcases List.mem_cons.mp hp with e | e
        · subst e
          intro z hz
          rcases List.mem_cons.mp hz with e | e
          · rw [e]; exact h y List.mem_cons_self
          · exact ih q (by rw [hr]; exact List.mem_cons_self) z e
        · exact ih p (by rw [hr]; exact List.mem_cons_of_mem _ e)
theorem pf_split {o y : Expr} {apos pos : Pos} {m1 m2 : M} (ho : PE X o (tM g W m1)) (hy : PE X y (tM g W m2)) (h2 : ∀ e s, (∃ d, m2 e s = .ok d s) ∨ m2 e s = .bad) (hs : notStar y = true) (hb : noSuper o = true) (hl : (apos.endLine == pos.line) = true) :
    PE X (.Call (.Attribute o "split" apos) [y] [] pos) (tMf g W fun e s => (m1 e s).bind fun x s => (m2 e s).bind fun z s => Rs.of (splitV x z) s) := by
  refine PE.imp (pe_split ho hy (star1 hs) (base_of hb) hl) ?_
  intro σ H Q h
  obtain ⟨b, Z, S, e, s, R, h⟩ := tMf_iff.mp h
  refine stepEF R h fun d s1 v Z1 S1 H1 h' R1 x1 dn => ⟨?_, ?_⟩
  · clear h
    have h := h'
    rcases h2 e s1 with ⟨d2, q⟩ | q
    · rw [q] at h
      cases d with
      | str x => cases dn; exact ⟨_, rfl⟩
      | _ => simp only [Rs.bind_ok, splitV] at h; exact h.elim
    · rw [q] at h; exact h.elim
  · refine stepEF R1 h' fun d2 s2 v2 Z2 S2 H2 h R2 x2 dn2 => ?_
    cases c : splitV d d2 with
    | none => rw [c] at h; exact h.elim
    | some r =>
      rw [c] at h
      have hf : ∃ x cc, d = .str x ∧ d2 = .str [cc] ∧ x.length + 2 ≤ lim ∧ r = (splitC cc x).map D.str := by
        cases d <;> cases d2 <;> first | (simp [splitV] at c; done) | skip
        rename_i x t
        match t, c with
        | [cc], c =>
          simp only [splitV] at c
          split at c
          · rename_i hh
            simp only [Bool.and_eq_true, decide_eq_true_eq] at hh
            exact ⟨x, cc, rfl, rfl, hh.1, (Option.some.inj c).symm⟩
          · cases c
      obtain ⟨x, cc, rfl, rfl, hlim, rfl⟩ := hf
      cases dn with
      | str _ okx =>
        cases dn2
        refine ⟨_, _, rfl, rfl, rfl, by simpa [Str.length, lim_line] using hlim, fun p n => ?_⟩
        have e : ((Txt.split ⟨x.toArray⟩ ⟨[cc].toArray⟩).map V.str) = (splitC cc x).map strV := by
          show ((Txt.split ⟨x.toArray⟩ ⟨#[cc]⟩).map V.str) = _
          rw [split_eq, List.map_map]; rfl
        rw [e]
        obtain ⟨q1, x1', zp, ns⟩ := layO R2.sto n (notTbl_lst ((splitC cc x).map strV))
        exact h p _ _ _ _ q1 x1' upd_same (den_strs fun z hz => okS_split okx z hz) n zp ns
/-! ### x.upper() -/
theorem up_all : (List.range 128).all (fun c => decide (Unicode.upperOf c = [upC c])) = true := by decide +kernel
theorem placed_up (x : List Nat) (h : ∀ c ∈ x, c < 128) : Txt.upper ⟨x.toArray⟩ = ⟨(x.map upC).toArray⟩ := by
  have key : ∀ c ∈ x, Unicode.upperOf c = [upC c] := fun c hc => of_decide_eq_true (List.all_eq_true.mp up_all c (List.mem_range.mpr (h c hc)))
  unfold Txt.upper
  rw [placed_single ⟨x.toArray⟩ _ upC (fun i c hi => key c (List.mem_of_getElem? (by simpa using hi)))]
  simp
theorem okS_up {x : List Nat} (h : ∀ c ∈ x, c < 128) : okS (x.map upC) := by
  intro c hc
  obtain ⟨d, hd, rfl⟩ := List.mem_map.mp hc
  have := h d hd
  unfold upC
  split <;> omega
theorem pe_upperE {o : Expr} {apos pos : Pos} {m : M} (ho : PE X o (tM g W m)) (hb : noSuper o = true) (hl : (apos.endLine == pos.line) = true) :
    PE X (.Call (.Attribute o "upper" apos) [] [] pos) (tM g W fun e s => (m e s).bind fun x s => Rs.of (meth .upper (der s x) []) s) := by
  refine PE.imp (pe_m0 PySem.F.slot_str_upper PySem.F.type_str_upper mt_upper ho (base_of hb) hl) ?_
  intro σ H Q h
  obtain ⟨b, Z, S, e, s, R, h⟩ := tM_iff.mp h
  refine stepE R h fun d s1 v Z1 S1 H1 h R1 x1 dn => ?_
  cases c : meth .upper (der s1 d) [] with
  | none => rw [c] at h; exact h.elim
  | some r =>
    rw [c] at h
    cases q : der s1 d with
    | str x =>
      rw [q] at c
      have := der_str q
      subst this
      simp only [meth] at c
      split at c
      · rename_i hx
        simp only [Bool.and_eq_true, List.all_eq_true, decide_eq_true_eq] at hx
        simp only [Option.some.injEq] at c
        subst c
        cases dn
        refine ⟨⟨_, rfl⟩, _, rfl, rfl, by simp [Str.length]; omega, ?_⟩
        rw [placed_up x hx.1]
        exact h _ Z1 S1 H1 R1.sto .refl (.str _ (okS_up hx.1))
      · cases c
    | _ => rw [q] at c; simp [meth] at c
end
end Ms

set_option Elab.async false
set_option linter.all false
set_option autoImplicit false
set_option maxRecDepth 100000
set_option maxHeartbeats 8000000
namespace Ms
open PySem PySem.Spec L2 SX
open PyProof.Rows hiding St
variable {g : Glob} {k : Nat} {c : Cfg}
section
variable {N : List Str} {sc : Scope} {W : WX} {X : Cx}
def tIfT (t u v : TT) : TT := fun σ H Q => t σ H fun b H1 => if b = true then u σ H1 Q else v σ H1 Q
theorem pt_ifT {e a d : Expr} {pos : Pos} {tc ta tb : TT} (hc : PT X e tc) (ha : PT X a ta) (hb : PT X d tb) : PT X (.IfExp e a d pos) (tIfT tc ta tb) := by
  refine ⟨fun pins s σ H Q J h => ?_⟩
  show wpAny _ _ (do if ← isTrue e X.env (eval e X.env) then isTrue a X.env (eval a X.env) else isTrue d X.env (eval d X.env)) _ _ s
  refine wpAny_bind (thn (hc.run pins s σ H _ J h) fun b s1 hh => ?_)
  obtain ⟨H1, J1, q⟩ := hh
  cases b with
  | true => exact ha.run pins s1 σ H1 Q J1 q
  | false => exact hb.run pins s1 σ H1 Q J1 q
theorem pt_iteV {e x y : Expr} {pos : Pos} {m m1 m2 : M} (hc : PT X e (tMb g W (mB m))) (ha : PT X x (tMb g W (mB m1))) (hb : PT X y (tMb g W (mB m2))) :
    PT X (.IfExp e x y pos) (tMb g W (mB fun e s => (m e s).bind fun x s => (truthR x s).bind fun t s => match t with
    | true => m1 e s
    | false => m2 e s)) := by
  refine PT.imp (pt_ifT hc ha hb) ?_
  intro σ H Q h
  obtain ⟨b, Z, S, e, s, R, h⟩ := tMb_iff.mp h
  refine tMb_iff.mpr ⟨b, Z, S, e, s, R, ?_⟩
  unfold mB at h ⊢
  dsimp only at h
  cases c : m e s with
  | ok x s1 =>
    rw [c] at h
    simp only [Rs.bind_ok] at h ⊢
    cases c2 : truthR x s1 with
    | ok t s2 =>
      rw [c2] at h
      intro Z' S' H' q x1
      cases t with
      | true => exact tMb_iff.mpr ⟨b, Z', S', e, s2, R.ext' x1 q, postB.back x1 h⟩
      | false => exact tMb_iff.mpr ⟨b, Z', S', e, s2, R.ext' x1 q, postB.back x1 h⟩
    | ex _ _ _ => rw [c2] at h; exact h
    | bad => rw [c2] at h; exact h
  | ex _ _ _ => rw [c] at h; exact h
  | bad => rw [c] at h; exact h
theorem m1_eq {C : Calls} {GG : Nat → D} {f : Mt} {o a : E} : evE C GG (.m f o (.cons a .nil)) = fun e s => (evE C GG o e s).bind fun x s => (evE C GG a e s).bind fun z s => Rs.of (meth f (der s x) [der s z]) s := by
  funext e s
  simp only [evE, evEs]
  refine congrArg (fun z => (evE C GG o e s).bind z) (funext fun x => funext fun s1 => ?_)
  cases evE C GG a e s1 <;> rfl
/-- a fresh list -/
structure OkF (g : Glob) (W : WX) (X : Cx) (x : Expr) (m : Env → Sto → Rs (List D)) : Prop where
  pf : PE X x (tMf g W m)
  nb : isBool x = false
  tr : ∀ whole, isTrue x X.env whole = (do let v ← whole; standAt x.pos; holding [v] (truthy v))
end
mutual
theorem okE (K : CfgOk g k c) : ∀ (i : E) {N : List Str} {sc : Scope} {W : WX} {X : Cx} (x : Expr), GoodX g k N sc W X → chkE c N sc i x = true → OkE g W X x (evE (callK g.G g.T k) g.G i)
  | .v i, N, sc, W, X, x, G, h => by
    simp only [chkE] at h
    split at h
    · obtain ⟨h1, h2, h3, h4⟩ := vis_of h
      exact .of G (pe_v G h1 h2 h3 h4) rfl fun _ => rfl
    · cases h
  | .k d, N, sc, W, X, x, G, h => by
    simp only [chkE] at h
    split at h
    · exact .of G (k_of G h) rfl fun _ => rfl
    · have e : d = .dct [] := by
        unfold isD0 at h
        split at h
        · rfl
        · cases h
      subst e
      exact .of G pe_d0 rfl fun _ => rfl
    · cases h
  | .g j, N, sc, W, X, x, G, h => by
    simp only [chkE] at h
    split at h
    · simp only [Bool.and_eq_true, decide_eq_true_eq] at h
      obtain ⟨db, u, v, hm, r, dn⟩ := K.gn _ _ h.1
      exact .of G (pe_kc G (pe_glob (gl_of G h.2) (by rw [G.hmg]; exact hm) r db) dn) rfl fun _ => rfl
    · cases h
  | .bin o a b, N, sc, W, X, x, G, h => by
    simp only [chkE] at h
    split at h
    · simp only [Bool.and_eq_true] at h
      obtain ⟨⟨h1, h2⟩, h3⟩ := h
      obtain ⟨r, ho, hd⟩ := op_of G h1
      exact .of G (pe_bin ho hd (okE K a _ G h2).pe (okE K b _ G h3).pe) rfl fun _ => rfl
    · cases h
  | .neg a, N, sc, W, X, x, G, h => by
    simp only [chkE] at h
    split at h
    · exact .of G (pe_neg (okE K a _ G h).pe) rfl fun _ => rfl
    · cases h
  | .cmp o a b, N, sc, W, X, x, G, h => by
    simp only [chkE] at h
    split at h
    · simp only [Bool.and_eq_true, Bool.not_eq_true'] at h
      obtain ⟨⟨⟨h1, h0⟩, h2⟩, h3⟩ := h
      obtain ⟨r, ho, hd⟩ := cop_of G h1
      have hb : ∀ a b s d, cmpB o a b s = some d → ∃ t, d = D.bl t := fun a b s d e => by
        unfold cmpB at e
        cases q : cmpop o (der s a) (der s b) with
        | none => rw [q] at e; cases e
        | some t => rw [q] at e; exact ⟨t, (Option.some.inj e).symm⟩
      exact .of2 (pe_cmp2 ho hd (okE K a _ G h2).pe (okE K b _ G h3).pe h0) (pt_cmp2 ho hd hb (okE K a _ G h2).pe (okE K b _ G h3).pe h0) rfl
    · cases h
  | .chain o p a b d, N, sc, W, X, x, G, h => by
    simp only [chkE] at h
    split at h
    · simp only [Bool.and_eq_true, Bool.not_eq_true'] at h
      obtain ⟨⟨⟨⟨⟨h1, h2⟩, h0⟩, h3⟩, h4⟩, h5⟩ := h
      obtain ⟨r, ho, hd⟩ := cop_of G h1
      obtain ⟨r2, ho2, hd2⟩ := cop_of G h2
      exact .of2 (pe_chain' (f1 := fun a b s => cmpop o (der s a) (der s b)) (f2 := fun a b s => cmpop p (der s a) (der s b)) ho ho2 hd hd2 (okE K a _ G h3).pe (okE K b _ G h4).pe (okE K d _ G h5).pe h0) (pt_chain' (f1 := fun a b s => cmpop o (der s a) (der s b)) (f2 := fun a b s => cmpop p (der s a) (der s b)) ho ho2 hd hd2 (okE K a _ G h3).pe (okE K b _ G h4).pe (okE K d _ G h5).pe h0) rfl
    · cases h
  | .isN a, N, sc, W, X, x, G, h => by
    simp only [chkE] at h
    split at h
    · exact .of2 (pe_isN' (okE K a _ G h).pe) (pt_isN' (okE K a _ G h).pe) rfl
    · cases h
  | .notN a, N, sc, W, X, x, G, h => by
    simp only [chkE] at h
    split at h
    · exact .of2 (pe_notN' (okE K a _ G h).pe) (pt_notN' (okE K a _ G h).pe) rfl
    · cases h
  | .and a b, N, sc, W, X, x, G, h => by
    simp only [chkE] at h
    split at h
    · simp only [Bool.and_eq_true] at h
      have o1 := okE K a _ G h.1
      have o2 := okE K b _ G h.2
      exact ⟨pe_and' G o1.pe (pe_one o2.pe), (pt_andV G o1.pt (pw_and1 o2.pt)).pt, fun _ _ _ _ => pt_andV G o1.pt (pw_and1 o2.pt)⟩
    · simp only [Bool.and_eq_true] at h
      have o1 := okE K a _ G h.1
      have o2 := okE K b _ G h.2
      exact ⟨pe_and' G o1.pe o2.pe, (pt_andV G o1.pt (o2.pw _ _ _ rfl)).pt, fun _ _ _ _ => pt_andV G o1.pt (o2.pw _ _ _ rfl)⟩
    · cases h
  | .or a b, N, sc, W, X, x, G, h => by
    simp only [chkE] at h
    split at h
    · simp only [Bool.and_eq_true] at h
      have o1 := okE K a _ G h.1
      have o2 := okE K b _ G h.2
      exact ⟨pe_or' G o1.pe (pe_one o2.pe), (pt_orV G o1.pt (pw_or1 o2.pt)).pt, fun _ _ _ _ => pt_orV G o1.pt (pw_or1 o2.pt)⟩
    · simp only [Bool.and_eq_true] at h
      have o1 := okE K a _ G h.1
      have o2 := okE K b _ G h.2
      exact ⟨pe_or' G o1.pe o2.pe, (pt_orV G o1.pt (o2.pw _ _ _ rfl)).pt, fun _ _ _ _ => pt_orV G o1.pt (o2.pw _ _ _ rfl)⟩
    · cases h
  | .not a, N, sc, W, X, x, G, h => by
    simp only [chkE] at h
    split at h
    · exact .of2 (pe_not' G (okE K a _ G h).pe) (pt_notV (okE K a _ G h).pt) rfl
    · cases h
  | .ite t a b, N, sc, W, X, x, G, h => by
    simp only [chkE] at h
    split at h
    · simp only [Bool.and_eq_true] at h
      obtain ⟨⟨h1, h2⟩, h3⟩ := h
      exact .of2 (pe_ite' (okE K t _ G h1).pt (okE K a _ G h2).pe (okE K b _ G h3).pe) (pt_iteV (okE K t _ G h1).pt (okE K a _ G h2).pt (okE K b _ G h3).pt) rfl
    · cases h
  | .call f as, N, sc, W, X, x, G, h => by
    simp only [chkE] at h
    split at h
    · simp only [Bool.and_eq_true, decide_eq_true_eq] at h
      obtain ⟨⟨⟨h1, h2⟩, h3⟩, h4⟩ := h
      obtain ⟨hm, db, F⟩ := K.fn _ _ h1
      exact .of G (pe_callE G F (gl_of G h2) (by rw [G.hmg]; exact hm) (okEs K as _ G h4) h3 db) rfl fun _ => rfl
    · simp only [Bool.and_eq_true, decide_eq_true_eq] at h
      obtain ⟨⟨h1, h2⟩, h3⟩ := h
      obtain ⟨hm, db, F⟩ := K.fn _ _ h1
      have e : as = .nil := by
        unfold isNilEs at h3
        split at h3
        · rfl
        · cases h3
      subst e
      refine .of G (PE.imp (pe_call0E G F (gl_of G h2) (by rw [G.hmg]; exact hm) db) fun σ H Q q => ?_) rfl fun _ => rfl
      simp only [evE, evEs, Rs.bind_ok] at q
      exact q
    · cases h
  | .dyn a as, N, sc, W, X, x, G, h => by
    simp only [chkE] at h
    split at h
    · simp only [Bool.and_eq_true] at h
      obtain ⟨⟨h1, h2⟩, h3⟩ := h
      exact .of G (pe_dynE G K.dy (okE K a _ G h1).pe (okEs K as _ G h3) h2 rfl) rfl fun _ => rfl
    · cases h
  | .isin a t, N, sc, W, X, x, G, h => by
    simp only [chkE] at h
    split at h
    · simp only [Bool.and_eq_true, decide_eq_true_eq, Bool.not_eq_true', decide_eq_false_iff_not] at h
      obtain ⟨⟨⟨⟨⟨⟨⟨⟨rfl, h2⟩, h3⟩, h4⟩, rfl⟩, h6⟩, h7⟩, h8⟩, h9⟩ := h
      exact .of G (pe_isin' (p3 := default) G h4 (gl_of G h2) (bi_of K G h3) (gl_of G h6) (bi_of K G h7) (by cases t <;> first | exact absurd rfl h4 | decide +kernel) (by cases t <;> decide) (by cases t <;> decide) (okE K a _ G h9).pe h8) rfl fun _ => rfl
    · simp only [Bool.and_eq_true, decide_eq_true_eq] at h
      obtain ⟨⟨⟨⟨⟨⟨⟨⟨⟨⟨⟨rfl, h2⟩, h3⟩, rfl⟩, rfl⟩, rfl⟩, h7⟩, h8⟩, h9⟩, h10⟩, h11⟩, h12⟩ := h
      exact .of G (pe_isinTL' G (gl_of G h2) (bi_of K G h3) (gl_of G h7) (bi_of K G h8) (gl_of G h9) (bi_of K G h10) (okE K a _ G h12).pe h11) rfl fun _ => rfl
    · cases h
  | .b1 f a, N, sc, W, X, x, G, h => by
    simp only [chkE] at h
    split at h
    · simp only [Bool.and_eq_true, decide_eq_true_eq] at h
      obtain ⟨⟨⟨⟨⟨h1, rfl⟩, h3⟩, h4⟩, h5⟩, h6⟩ := h
      exact .of G (pe_b1E G h1 (gl_of G h3) (bi_of K G h4) (okE K a _ G h6).pe h5) rfl fun _ => rfl
    · cases h
  | .m f o as, N, sc, W, X, x, G, h => by
    unfold chkE at h
    split at h
    · rename_i a y n ap z p
      simp only [Bool.and_eq_true, decide_eq_true_eq] at h
      obtain ⟨⟨⟨⟨⟨⟨rfl, h2⟩, h3⟩, h4⟩, h5⟩, h6⟩, h7⟩ := h
      rw [m1_eq]
      exact .of G (pe_strip (okE K o _ G h6).pe (okE K a _ G h7).pe (fun e s => simple_ok h2 e s) h3 h4 h5) rfl fun _ => rfl
    · rename_i a y np n ap z p
      split at h
      · rename_i j
        simp only [Bool.and_eq_true, decide_eq_true_eq] at h
        obtain ⟨⟨⟨⟨⟨rfl, h2⟩, h3⟩, h4⟩, h5⟩, h6⟩ := h
        have := pe_indexG G (K.tg _ _ h2) (gl_of G h3) (okE K a _ G h6).pe h4 h5 (np := np) (apos := ap) (pos := p)
        have hd : ∀ s, der s (g.G j) = g.G j := by
          obtain ⟨_, _, _, _, ys, _, _, _, _, _, _, _, hG⟩ := (K.tg _ _ h2).at_
          intro s
          rw [hG]
          rfl
        rw [m1_eq]
        refine .of G (PE.imp this fun σ H Q q => ?_) rfl fun _ => rfl
        simp only [evE, Rs.bind_ok, hd] at q
        exact q
      · cases h
    · rename_i a y j np n ap z p
      split at h
      · rename_i d
        simp only [Bool.and_eq_true, decide_eq_true_eq] at h
        obtain ⟨⟨⟨⟨rfl, h2⟩, h3⟩, h4⟩, h5⟩ := h
        cases d with
        | str t =>
          simp only [kOk, Bool.and_eq_true, decide_eq_true_eq] at h2
          obtain ⟨rfl, h2⟩ := h2
          have e : V.str y = strV y.cps.toList := by unfold strV; cases y; simp
          have ho : PE X (.Constant (.str y) j np) (tC (strV y.cps.toList)) := by rw [← e]; exact pe_str
          have := pe_joinE G ho (fun c hc => of_decide_eq_true (List.all_eq_true.mp h2 c hc)) (okE K a _ G h5).pe rfl h3 h4 (apos := ap) (pos := p)
          rw [m1_eq]
          refine .of G (PE.imp this fun σ H Q q => ?_) rfl fun _ => rfl
          simp only [evE, Rs.bind_ok] at q
          exact q
        | _ => simp [kOk] at h2
      · cases h
    · rename_i y n ap p
      simp only [Bool.and_eq_true, decide_eq_true_eq] at h
      obtain ⟨⟨⟨rfl, h2⟩, h3⟩, h4⟩ := h
      refine .of G (PE.imp (pe_upperE (okE K o _ G h4).pe h2 h3) fun σ H Q q => ?_) rfl fun _ => rfl
      simp only [evE, evEs, Rs.bind_ok, List.map_nil] at q
      exact q
    · cases h
  | .b2 _ _ _, N, sc, W, X, x, G, h => by simp only [chkE] at h; cases h
  | .me kk f o as, N, sc, W, X, x, G, h => by
    simp only [chkE] at h
    split at h
    · rename_i y n ap ys p
      simp only [Bool.and_eq_true, decide_eq_true_eq] at h
      obtain ⟨⟨⟨⟨⟨⟨h1, h2⟩, h3⟩, h4⟩, hn⟩, h5⟩, h6⟩ := h
      obtain ⟨M, F⟩ := K.mt _ _ _ h1
      have o1 := (okE K o _ G h5).pe
      have o2 := okEs K as _ G h6
      cases ys with
      | nil =>
        cases as with
        | nil => exact .of G (pe_me0E G F M o1 (meth_ht h2 h3 h4 hn)) rfl fun _ => rfl
        | cons _ _ => simp only [chkEs] at h6; cases h6
      | cons y0 ys0 => exact .of G (pe_meE G F M o1 o2 h4 (meth_ht h2 h3 h4 hn)) rfl fun _ => rfl
    · cases h
  | .mk kk f as, N, sc, W, X, x, G, h => by
    simp only [chkE] at h
    split at h
    · simp only [Bool.and_eq_true, decide_eq_true_eq] at h
      obtain ⟨⟨⟨h1, h2⟩, h3⟩, h4⟩ := h
      obtain ⟨hm, db, M⟩ := K.mks _ _ _ h1
      exact .of G (pe_mkE G M (gl_of G h2) (by rw [G.hmg]; exact hm) (okEs K as _ G h4) h3 db) rfl fun _ => rfl
    · cases h
  | .newL as, N, sc, W, X, x, G, h => by
    simp only [chkE] at h
    split at h
    · simp only [Bool.and_eq_true] at h
      exact .of G (pe_newL (okEs K as _ G h.2)) rfl fun _ => rfl
    · cases h
  | .fld o f, N, sc, W, X, x, G, h => by
    simp only [chkE] at h
    split at h
    · simp only [Bool.and_eq_true, decide_eq_true_eq] at h
      obtain ⟨⟨h1, h2⟩, h3⟩ := h
      obtain ⟨e, F⟩ := K.fd _ _ h1
      exact .of G (pe_fldE G e F (okE K o _ G h3).pe h2) rfl fun _ => rfl
    · cases h
  | .ix a b, N, sc, W, X, x, G, h => by
    simp only [chkE] at h
    split at h
    · simp only [Bool.and_eq_true] at h
      obtain ⟨⟨h1, h2⟩, h3⟩ := h
      exact .of G (pe_ix' G (okE K a _ G h2).pe (okE K b _ G h3).pe h1) rfl fun _ => rfl
    · cases h
  | .sl a lo hi, N, sc, W, X, x, G, h => by
    simp only [chkE] at h
    split at h
    · simp only [Bool.and_eq_true] at h
      obtain ⟨⟨h1, h2⟩, h3⟩ := h
      exact .of G (pe_sl' G (okE K a _ G h1).pe (okO K lo _ G h2) (okO K hi _ G h3)) rfl fun _ => rfl
    · cases h
  | .tup as, N, sc, W, X, x, G, h => by
    simp only [chkE] at h
    split at h
    · simp only [Bool.and_eq_true] at h
      exact .of G (pe_tup' (okEs K as _ G h.2)) rfl fun _ => rfl
    · cases h
  | .fl f, N, sc, W, X, x, G, h => by
    simp only [chkE] at h
    have o := okF K f x G h
    exact .of G (pe_fl o.pf) o.nb o.tr
  | .fw _ _ _ _, N, sc, W, X, x, G, h => by simp only [chkE] at h; cases h
  | .lenO i, N, sc, W, X, x, G, h => by
    simp only [chkE] at h
    split at h
    · simp only [Bool.and_eq_true, decide_eq_true_eq] at h
      obtain ⟨⟨⟨rfl, h2⟩, h3⟩, h4⟩ := h
      obtain ⟨v1, v2, v3, v4⟩ := vis_of h4
      exact .of G (pe_lenO G v1 v2 v3 v4 (gl_of G h2) (bi_of K G h3)) rfl fun _ => rfl
    · cases h
  | .inO neg a i, N, sc, W, X, x, G, h => by
    simp only [chkE] at h
    split at h
    · simp only [Bool.and_eq_true, Bool.not_eq_true'] at h
      obtain ⟨⟨rfl, h2⟩, h3⟩ := h
      obtain ⟨v1, v2, v3, v4⟩ := vis_of h2
      exact .of2 (pe_inO G v1 v2 v3 v4 (okE K a _ G h3).pe) (pt_inO G v1 v2 v3 v4 (okE K a _ G h3).pe) rfl
    · simp only [Bool.and_eq_true] at h
      obtain ⟨⟨rfl, h2⟩, h3⟩ := h
      obtain ⟨v1, v2, v3, v4⟩ := vis_of h2
      exact .of2 (pe_ninO G v1 v2 v3 v4 (okE K a _ G h3).pe) (pt_ninO G v1 v2 v3 v4 (okE K a _ G h3).pe) rfl
    · cases h
  | .ixO i a, N, sc, W, X, x, G, h => by
    simp only [chkE] at h
    split at h
    · simp only [Bool.and_eq_true] at h
      obtain ⟨⟨h1, h2⟩, h3⟩ := h
      obtain ⟨v1, v2, v3, v4⟩ := vis_of h1
      exact .of G (pe_ixO G v1 v2 v3 v4 (okE K a _ G h3).pe h2) rfl fun _ => rfl
    · cases h
  | .pop a, N, sc, W, X, x, G, h => by
    simp only [chkE] at h
    split at h
    · simp only [Bool.and_eq_true, decide_eq_true_eq] at h
      obtain ⟨⟨⟨rfl, h2⟩, h3⟩, h4⟩ := h
      exact .of G (pe_pop (okE K a _ G h4).pe h2 h3) rfl fun _ => rfl
    · cases h
  | .bad, N, sc, W, X, x, G, h => bad_ok
theorem okEs (K : CfgOk g k c) : ∀ (i : Es) {N : List Str} {sc : Scope} {W : WX} {X : Cx} (xs : List Expr), GoodX g k N sc W X → chkEs c N sc i xs = true → PA X xs (tMs g W (evEs (callK g.G g.T k) g.G i))
  | .nil, N, sc, W, X, xs, G, h => by
    simp only [chkEs] at h
    split at h
    · exact pa_nil'
    · cases h
  | .cons a r, N, sc, W, X, xs, G, h => by
    simp only [chkEs] at h
    split at h
    · simp only [Bool.and_eq_true] at h
      obtain ⟨⟨h1, h2⟩, h3⟩ := h
      exact pa_cons' (okE K a _ G h2).pe (okEs K r _ G h3) h1
    · cases h
theorem okO (K : CfgOk g k c) : ∀ (i : Oe) {N : List Str} {sc : Scope} {W : WX} {X : Cx} (x : Option Expr), GoodX g k N sc W X → chkO c N sc i x = true → PO X x (tMo g W (evO (callK g.G g.T k) g.G i))
  | .none, N, sc, W, X, x, G, h => by
    simp only [chkO] at h
    split at h
    · exact po_none'
    · cases h
  | .some a, N, sc, W, X, x, G, h => by
    simp only [chkO] at h
    split at h
    · exact po_some' (okE K a _ G h).pe
    · cases h
theorem okF (K : CfgOk g k c) : ∀ (i : F) {N : List Str} {sc : Scope} {W : WX} {X : Cx} (x : Expr), GoodX g k N sc W X → chkF c N sc i x = true → OkF g W X x (evF (callK g.G g.T k) g.G i)
  | .lst as, N, sc, W, X, x, G, h => by
    simp only [chkF] at h
    split at h
    · simp only [Bool.and_eq_true] at h
      exact ⟨pf_lst (okEs K as _ G h.2), rfl, fun _ => rfl⟩
    · cases h
  | .cat a b, N, sc, W, X, x, G, h => by
    simp only [chkF] at h
    split at h
    · simp only [Bool.and_eq_true] at h
      exact ⟨pf_cat (okE K a _ G h.1).pe (okE K b _ G h.2).pe, rfl, fun _ => rfl⟩
    · cases h
  | .rep a b, N, sc, W, X, x, G, h => by
    simp only [chkF] at h
    split at h
    · simp only [Bool.and_eq_true] at h
      exact ⟨pf_rep (okE K a _ G h.1).pe (okE K b _ G h.2).pe, rfl, fun _ => rfl⟩
    · cases h
  | .slc a lo hi, N, sc, W, X, x, G, h => by
    simp only [chkF] at h
    split at h
    · simp only [Bool.and_eq_true] at h
      obtain ⟨⟨h1, h2⟩, h3⟩ := h
      exact ⟨pf_slc G (okE K a _ G h1).pe (okO K lo _ G h2) (okO K hi _ G h3), rfl, fun _ => rfl⟩
    · cases h
  | .lc el tg it co own, N, sc, W, X, x, G, h => by
    simp only [chkF] at h
    split at h
    · rename_i y t i ifs scope pos
      simp only [Bool.and_eq_true] at h
      obtain ⟨⟨⟨⟨⟨⟨h1, h2⟩, h3⟩, h4⟩, h5⟩, h6⟩, h7⟩ := h
      have eo : (ownOf N own).map (·.2) = own := by unfold ownOf; rw [List.map_map]; exact List.map_id _
      refine ⟨?_, rfl, fun _ => rfl⟩
      have := pf_lc (own := ownOf N own) (tgI := tg) (pos := pos) G (okIt K it _ _ G h5) (blkOk_by h1) (fun cl C => by show relS _ X.env.scope = _; rw [G.hsc]) (fun X' G' => pg_of (co := false) G'.calm G'.hK G'.hN G'.nd G'.hsc (fun q => Bool.noConfusion q) h3) (fun X' G' => okC K co _ G' h6) (fun X' G' => (okE K el _ G' h7).pe) h2 (fun i hi => by rw [eo]; exact List.contains_iff_mem.mp (List.all_eq_true.mp h4 i hi))
      rw [eo] at this
      exact this
    · cases h
  | .list a, N, sc, W, X, x, G, h => by
    simp only [chkF] at h
    split at h
    · simp only [Bool.and_eq_true, decide_eq_true_eq] at h
      obtain ⟨⟨⟨⟨rfl, h2⟩, h3⟩, h4⟩, h5⟩ := h
      exact ⟨pf_list G (gl_of G h2) (bi_of K G h3) (okE K a _ G h5).pe h4, rfl, fun _ => rfl⟩
    · cases h
  | .split a b, N, sc, W, X, x, G, h => by
    simp only [chkF] at h
    split at h
    · simp only [Bool.and_eq_true, decide_eq_true_eq] at h
      obtain ⟨⟨⟨⟨⟨⟨rfl, h2⟩, h3⟩, h4⟩, h5⟩, h6⟩, h7⟩ := h
      exact ⟨pf_split (okE K a _ G h6).pe (okE K b _ G h7).pe (fun e s => simple_ok h2 e s) h3 h4 h5, rfl, fun _ => rfl⟩
    · cases h
  | .srt a, N, sc, W, X, x, G, h => by
    simp only [chkF] at h
    split at h
    · simp only [Bool.and_eq_true, decide_eq_true_eq] at h
      obtain ⟨⟨⟨⟨rfl, h2⟩, h3⟩, h4⟩, h5⟩ := h
      exact ⟨pf_srt (gl_of G h2) (bi_of K G h3) (okE K a _ G h5).pe h4, rfl, fun _ => rfl⟩
    · cases h
theorem okIt (K : CfgOk g k c) : ∀ (i : Src) {N : List Str} {sc : Scope} {W : WX} {X : Cx} (x t : Expr), GoodX g k N sc W X → chkIt c N sc i x t = true → PI X t x (tI g W (evIt (callK g.G g.T k) g.G i))
  | .seq a, N, sc, W, X, x, t, G, h => by
    simp only [chkIt] at h
    exact pi_seqE G (okE K a _ G h).pe
  | .rng1 a, N, sc, W, X, x, t, G, h => by
    simp only [chkIt] at h
    split at h
    · simp only [Bool.and_eq_true, decide_eq_true_eq] at h
      obtain ⟨⟨⟨⟨rfl, h2⟩, h3⟩, h4⟩, h5⟩ := h
      exact pi_rng1E (gl_of G h2) (bi_of K G h3) (okE K a _ G h5).pe h4
    · cases h
  | .rng2 a b, N, sc, W, X, x, t, G, h => by
    simp only [chkIt] at h
    split at h
    · simp only [Bool.and_eq_true, decide_eq_true_eq] at h
      obtain ⟨⟨⟨⟨⟨⟨rfl, h2⟩, h3⟩, h4⟩, h4b⟩, h5⟩, h6⟩ := h
      exact pi_rng2E (gl_of G h2) (bi_of K G h3) (okE K a _ G h5).pe (okE K b _ G h6).pe h4 h4b
    · cases h
  | .zip a b, N, sc, W, X, x, t, G, h => by
    simp only [chkIt] at h
    split at h
    · simp only [Bool.and_eq_true, decide_eq_true_eq] at h
      obtain ⟨⟨⟨⟨⟨⟨⟨h1, rfl⟩, h2⟩, h3⟩, h4⟩, h4b⟩, h5⟩, h6⟩ := h
      cases t <;> first | (cases h1; done) | exact pi_zipE G (gl_of G h2) (bi_of K G h3) (okE K a _ G h5).pe (okE K b _ G h6).pe h4 h4b
    · cases h
  | .rev a, N, sc, W, X, x, t, G, h => by
    simp only [chkIt] at h
    split at h
    · simp only [Bool.and_eq_true, decide_eq_true_eq] at h
      obtain ⟨⟨⟨⟨rfl, h2⟩, h3⟩, h4⟩, h5⟩ := h
      exact pi_revE G (gl_of G h2) (bi_of K G h3) (okE K a _ G h5).pe h4
    · cases h
theorem okC (K : CfgOk g k c) : ∀ (i : Oe) {N : List Str} {sc : Scope} {W : WX} {X : Cx} (xs : List Expr), GoodX g k N sc W X → chkC c N sc i xs = true → PTs X xs (tMb g W (evC (callK g.G g.T k) g.G i))
  | .none, N, sc, W, X, xs, G, h => by
    simp only [chkC] at h
    split at h
    · refine ⟨fun pins s σ H Q J hh => pts_nil.run pins s σ H Q J ?_⟩
      obtain ⟨b, Z, S, e, s, R, hh⟩ := tMb_iff.mp hh
      exact hh Z S H R.sto .refl
    · cases h
  | .some a, N, sc, W, X, xs, G, h => by
    simp only [chkC] at h
    split at h
    · exact pts_one (okE K a _ G h).pt
    · cases h
end
end Ms

set_option Elab.async false
set_option linter.all false
set_option autoImplicit false
set_option maxRecDepth 100000
set_option maxHeartbeats 2000000
namespace Ms
open PySem PySem.Spec L2 NdefX LamX SX
open PyProof.Rows hiding St
/-! ## lambdas in the checker -/
/-- a def whose code object has a table for its lambdas -/
def LamEnv (g : Glob) (X : Cx) : Prop := ∃ cc PP, X.env.code = .ref cc ∧ TabB g.base g.mg cc PP ∧ (PP, X.env.qual ++ "<lambda>") ∈ g.tabs ∧ ∀ p ∈ g.tabs, p.1 = PP → p.2 = X.env.qual ++ "<lambda>"
def chkFw (c : Cfg) (N : List Str) (sc : Scope) : E → Expr → Bool
  | .fw a caps nl b, .Call (.Name x _) [y, .Lambda ⟨[], [⟨kn, _, _⟩], none, [], [], none, []⟩ body scope _] [] _ =>
    decide (c.fw = some x) && gl sc x && notStar y && chkE c N sc a y && decide (nl = caps.length + 1) && caps.all (fun j => decide (j < N.length)) &&
      nscB (kn :: caps.map (fun j => N.getD j "")) [kn] (caps.map (fun j => N.getD j "")) scope && ndefB sc scope (caps.map (fun j => N.getD j "")) && chkE c (kn :: caps.map (fun j => N.getD j "")) scope b body
  | _, _ => false
theorem bind_lam1 (q kn : Str) (ann : Option Expr) (p : Pos) (body : Expr) (scope : Scope) (cl : List (Str × Addr)) (pm cv ctv u : Value) :
    bindArgs (PySem.W.kla_fn "<lambda>" q ⟨[], [⟨kn, ann, p⟩], none, [], [], none, []⟩ body scope cl pm cv ctv) ⟨[u], []⟩ = pure [(kn, u)] := by
  simp only [bindArgs, List.map, List.length, List.zip, List.zipWith, List.nil_append]
  simp [seqItems?, List.lookup]
  rfl
variable {g : Glob} {k : Nat} {c : Cfg}
theorem okFw (K : CfgOk g k c) {a : E} {N : List Str} {sc : Scope} {W : WX} {X : Cx} {x : Expr} (G : GoodD g k N sc W X) (HL : LamEnv g X) (h : chkFw c N sc a x = true) : PE X x (tM g W (evE (callK g.G g.T k) g.G a)) := by
  unfold chkFw at h
  split at h
  · rename_i a caps nl b x p y kn ann kp body scope lp pos
    simp only [Bool.and_eq_true, decide_eq_true_eq, List.all_eq_true] at h
    obtain ⟨⟨⟨⟨⟨⟨⟨⟨h1, h2⟩, h3⟩, h4⟩, rfl⟩, h6⟩, h7⟩, h8⟩, h9⟩ := h
    obtain ⟨cc, PP, e1, e2, e3, e4⟩ := HL
    obtain ⟨gg, fo⟩ := K.fw _ h1
    have L : LamT X (kn :: caps.map (fun j => N.getD j "")) (caps.map (fun j => N.getD j "")) caps kn ⟨[], [⟨kn, ann, kp⟩], none, [], [], none, []⟩ scope := by
      refine ⟨nscope_by h7, ?_, ndef_fr h8, ?_⟩
      · rw [G.hsc]; exact ndef_free h8
      · rw [List.map_map]
        refine List.map_congr_left fun j hj => ?_
        rw [G.hN]
        have hl := h6 j hj
        show N[j]? = some (N.getD j "")
        rw [List.getElem?_eq_getElem hl, List.getD_eq_getElem?_getD, List.getElem?_eq_getElem hl]
        rfl
    have := pe_fwE G fo (gl_of G.toGoodX h2) (okE K a _ G.toGoodX h4).pe h3 L e2 e1 e3 e4 rfl (fun q cl pm cv ctv u => bind_lam1 q kn ann kp body scope cl pm cv ctv u) (p := p) (lpos := lp) (pos := pos) (fun X' G' => (okE K b _ G' h9).pe)
    simp only [List.length_cons, List.length_map] at this
    rw [show evE (callK g.G g.T k) g.G (.fw a caps (caps.length + 1) b) = (fun e s => evE (callK g.G g.T k) g.G (.fw a caps (caps.length + 1) b) e s) from rfl]
    simp only [evE]
    exact this
  · cases h
end Ms

set_option Elab.async false
set_option linter.all false
set_option autoImplicit false
set_option maxRecDepth 100000
set_option maxHeartbeats 2000000
namespace Ms
open PySem PySem.Spec L2 SX
open PyProof.Rows hiding St
section
variable {g : Glob} {k : Nat} {N : List Str} {sc : Scope} {W : WX} {X : Cx}
def swBit (scope : Scope) (y : Str) (py pos : Pos) (env : PySem.Env) : Bool :=
  env.blockKind == .function && env.kindOf y == some .local && py.line == pos.line && !(scope.names.any fun (n, k) => n == y && (k == .local || k == .cell))
theorem sw_eq {elt : Expr} {gs : List Comprehension} {scope : Scope} {pos py : Pos} {y : Str} {l : Nat} {env : PySem.Env} : swapsWith (.ListComp elt gs scope pos) (some (.Name y py)) l env = pure (swBit scope y py pos env) := rfl
theorem ps_ownLc (G : GoodD g k N sc W X) {i : Nat} {y : Str} {py spos : Pos} {elt tg iter : Expr} {ifs : List Expr} {scope sc' : Scope} {own : List (Str × Nat)} {pos : Pos} {tgI : Tg} {mi : Env → Sto → Rs (List D)} {mc : Env → Sto → Rs Bool} {me : M} (hn : nameIs N sc true i y = true)
    (hi : PI X tg iter (tI g W mi)) (ok : BlkOk N sc scope own) (hsc : ∀ cl C, (compEnvC scope cl C X.env).scope = sc')
    (hg : ∀ X' : Cx, GoodX g k N sc' W0 X' → PG X' tg (tT g tgI)) (ht : ∀ X' : Cx, GoodX g k N sc' W0 X' → PTs X' ifs (tMb g W0 mc)) (he : ∀ X' : Cx, GoodX g k N sc' W0 X' → PE X' elt (tM g W0 me))
    (hs : notSet iter = true) (hix : ∀ i ∈ tgI.ix, i ∈ own.map (·.2)) :
    PS X (.Assign [.Name y py] (.ListComp elt [⟨tg, iter, ifs, 0⟩] scope pos) spos) (tMS g W fun e s => (((mi e s).bind fun ds s => match decide (ds.length ≤ lim) with
      | true => noEx (lcGo tgI (wipeE e (own.map (·.2))) mc me ds s)
      | false => .bad) : Rs (List D)).bindS e fun x s => .nx (e.set i (.own x)) s) := by
  obtain ⟨h1, h2, h3⟩ := nameIs_of (X := X) G.hsc (fun _ => G.fn) hn
  cases hb : swBit scope y py pos X.env with
  | false => exact ps_own_of (ps_name G hn (pf_lc G.toGoodX hi ok hsc hg ht he hs hix) (by rw [sw_eq, hb])) fun _ _ _ q => q
  | true =>
    have hl : X.env.scope.names.lookup y = some .local := by
      simp only [swBit, Bool.and_eq_true] at hb
      exact beq_iff_eq.mp hb.1.1.2
    refine ps_own_of (ps_setLc G.calm (by rw [G.hN]; exact G.nd) (by rw [G.hN]; exact h1) hl (by rw [sw_eq, hb]) hi (by rw [G.hN, G.hsc]; exact ok) (fun s H C cl fp => hg _ (blk_good G.toGoodX (hsc cl C))) (fun s H C cl fp => ht _ (blk_good G.toGoodX (hsc cl C))) (fun s H C cl fp => he _ (blk_good G.toGoodX (hsc cl C))) (notSet_of hs X.env)) fun σ H Q q => lc_imp hix q
end
end Ms

set_option Elab.async false
set_option linter.all false
set_option autoImplicit false
set_option maxRecDepth 100000
set_option maxHeartbeats 2000000
namespace Ms
open PySem PySem.Spec L2 SX
open PyProof.Rows hiding St
/-- which names a display on the right is stored to from the last one on; none where the model has no word -/
def swTup (sc : Scope) (ts vs : List Expr) : Option (Option (List Str)) :=
  if !(ts.length == 2 || ts.length == 3) || vs.length != ts.length then some none
  else if vs.any fun | .Starred .. => true | _ => false then some none
  else
    let line := (ts.head?.map (·.pos.line)).getD 0
    let names := ts.filterMap fun
      | .Name id pos => if sc.names.lookup id == some .local && pos.line == line then some id else none
      | _ => none
    if names.length != ts.length || names.eraseDups.length != names.length then some none
    else if vs.all (foldedForSure 8) then some none
    else if vs.all (constantsAlone 8) then none
    else some (some names)
theorem swTup_of {sc : Scope} {ts vs : List Expr} {k1 k2 : Nat} {p1 p2 : Pos} {env : PySem.Env} {r : Option (List Str)} (hk : env.blockKind = .function) (hs : env.scope = sc) (h : swTup sc ts vs = some r) : swappedStores [.Tuple ts k1 p1] (.Tuple vs k2 p2) env = pure r := by
  unfold swTup at h
  unfold swappedStores
  have hk2 : (env.blockKind != .function) = false := by rw [hk]; rfl
  have ek : ∀ id, env.kindOf id = sc.names.lookup id := fun id => by rw [← hs]; rfl
  simp only [hk2, ek, Bool.or_false]
  split at h
  · rename_i c
    simp only [Option.some.injEq] at h; subst h
    rw [if_pos c]
  · rename_i c
    rw [if_neg c]
    split at h
    · rename_i c2
      simp only [Option.some.injEq] at h; subst h
      exact if_pos c2
    · rename_i c2
      refine (if_neg c2).trans ?_
      dsimp only at h
      split at h
      · rename_i c3
        simp only [Option.some.injEq] at h; subst h
        exact if_pos c3
      · rename_i c3
        refine (if_neg c3).trans ?_
        split at h
        · rename_i c4
          simp only [Option.some.injEq] at h; subst h
          exact if_pos c4
        · rename_i c4
          refine (if_neg c4).trans ?_
          split at h
          · cases h
          · rename_i c5
            simp only [Option.some.injEq] at h; subst h
            exact if_neg c5
end Ms

set_option Elab.async false
set_option linter.all false
set_option autoImplicit false
set_option maxRecDepth 100000
set_option maxHeartbeats 8000000
namespace Ms
open PySem PySem.Spec L2 SX
open PyProof.Rows hiding St
/-! ## The checker on statements -/
def isNoRow : E → Bool
  | .k (.dct []) => true
  | _ => false
theorem noRow_of {a : E} (h : isNoRow a = true) : a = .k (.dct []) := by
  unfold isNoRow at h
  split at h
  · rfl
  · cases h
def eltsOf : Expr → List Expr
  | .Tuple es _ _ => es
  | _ => []
def namesOf : List Expr → List Str
  | .Name x _ :: r => x :: namesOf r
  | _ => []
theorem loc1_of {N : List Str} {sc : Scope} : ∀ {is : List Nat} {es : List Expr}, namesAre N sc false is es = true → Loc1 N sc is (namesOf es)
  | [], [], _ => .nil
  | i :: is, .Name x _ :: es, h => by
    simp only [namesAre, nameIs, Bool.and_eq_true, Bool.or_eq_true, decide_eq_true_eq, Bool.false_and, Bool.false_eq_true, or_false] at h
    exact .cons h.1.1 h.1.2 (loc1_of h.2)
theorem tup_form {v : Expr} (h : isTup v = true) : ∃ kk p, v = .Tuple (eltsOf v) kk p := by
  cases v <;> first | (cases h; done) | exact ⟨_, _, rfl⟩
def isLcF : F → Bool
  | .lc _ _ _ _ _ => true
  | _ => false
def isTL : Expr → Bool
  | .Tuple .. => true
  | .List .. => true
  | _ => false
section
variable (c : Cfg)
def chkHd (sc : Scope) (n : Str) : Hd → Stmt → Bool
  | .tf, s => (match s with
    | .Return (some (.Tuple [.Constant (.bool false) _ _, .Call (.Name w _) [.Name n2 _] [] _] _ _)) _ => decide (c.wd = some w) && decide (n2 = n) && gl sc w
    | _ => false)
  | .wd, s => (match s with
    | .Return (some (.Call (.Name w _) [.Name n2 _] [] _)) _ => decide (c.wd = some w) && decide (n2 = n) && gl sc w
    | _ => false)
  | _, _ => false
mutual
def chkS (L : Bool) (N : List Str) (sc : Scope) : S → Stmt → Bool
  | .set i a, x => (match x with
    | .Assign [.Name n _] v _ => nameIs N sc true i n && notComp v && (chkE c N sc a v || (L && chkFw c N sc a v))
    | _ => false)
  | .own i f, x => (match x with
    | .Assign [.Name n _] v _ => nameIs N sc true i n && (notComp v || isLcF f) && chkF c N sc f v
    | _ => false)
  | .par is a, x => (match x with
    | .Assign [.Tuple es _ _] v _ => isTup v && namesAre N sc false is es && decide (sc.kind = .function) && decide (swTup sc es (eltsOf v) = some (some (namesOf es))) && chkE c N sc a v
    | _ => false)
  | .paro i j a f, x => (match x with
    | .Assign [.Tuple [.Name n1 q1, .Name n2 q2] _ _] (.Tuple [v1, v2] _ _) _ => namesAre N sc false [i, j] [.Name n1 q1, .Name n2 q2] && decide (sc.kind = .function) && decide (swTup sc [.Name n1 q1, .Name n2 q2] [v1, v2] = some (some [n1, n2])) && notStar v1 && notStar v2 && chkE c N sc a v1 && chkF c N sc f v2
    | _ => false)
  | .unp2 i o a b, x => (match x with
    | .Assign [.Tuple [.Name n np, .Subscript y z yp] _ _] v _ => isTup v && nameIs N sc true i n && notSlice z && decide (sc.kind = .function) && decide (swTup sc [.Name n np, .Subscript y z yp] (eltsOf v) = some none) && chkE c N sc o y && chkE c N sc a z && chkE c N sc b v
    | _ => false)
  | .setO i a b, x => (match x with
    | .Assign [.Subscript (.Name n _) z _] v _ => visB N sc i n && notSlice z && notComp v && chkE c N sc a z && chkE c N sc b v
    | _ => false)
  | .ins i a b, x => (match x with
    | .Expr (.Call (.Attribute (.Name n _) at_ ap) [y, z] [] p) _ => decide (at_ = ("insert" : Str)) && visB N sc i n && notStar y && notStar z && (ap.endLine == p.line) && chkE c N sc a y && chkE c N sc b z
    | _ => false)
  | .unp is a, x => (match x with
    | .Assign [.Tuple es _ _] v _ => namesAre N sc true is es && notComp v && notTup v && chkE c N sc a v
    | _ => false)
  | .ex a, x => (match x with
    | .Expr v _ => notComp v && chkE c N sc a v
    | _ => false)
  | .app i a, x => (match x with
    | .Expr (.Call (.Attribute (.Name n _) at_ ap) [y] [] p) _ => decide (at_ = ("append" : Str)) && visB N sc i n && notStar y && (ap.endLine == p.line) && chkE c N sc a y
    | _ => false)
  | .ext i a, x => (match x with
    | .Expr (.Call (.Attribute (.Name n _) at_ ap) [y] [] p) _ => decide (at_ = ("extend" : Str)) && visB N sc i n && notStar y && (ap.endLine == p.line) && chkE c N sc a y
    | _ => false)
  | .appS o a, x => (match x with
    | .Expr (.Call (.Attribute z at_ ap) [y] [] p) _ => decide (at_ = ("append" : Str)) && notStar y && noSuper z && (ap.endLine == p.line) && chkE c N sc o z && chkE c N sc a y
    | _ => false)
  | .setI o a b, x => (match x with
    | .Assign [.Subscript y z _] v _ => notSlice z && notComp v && chkE c N sc o y && chkE c N sc a z && chkE c N sc b v
    | _ => false)
  | .setF o f b, x => (match x with
    | .Assign [.Attribute y n _] v _ => decide (c.fd f = some n) && notComp v && chkE c N sc o y && chkE c N sc b v
    | _ => false)
  | .ret a, x => (match x with
    | .Return (some v) _ => chkE c N sc a v || (L && chkFw c N sc a v)
    | _ => false)
  | .retN, x => (match x with
    | .Return none _ => true
    | _ => false)
  | .ifs t a b, x => (match x with
    | .If u y z _ => chkE c N sc t u && chkSs L N sc a y && chkSs L N sc b z
    | _ => false)
  | .for_ tg it b, x => (match x with
    | .For t i y [] _ => tgB N sc true tg t && notSet i && chkIt c N sc it i t && chkSs L N sc b y
    | _ => false)
  | .while_ t b, x => (match x with
    | .While u y [] _ => chkE c N sc t u && chkSs L N sc b y
    | _ => false)
  | .raise_ k a, x => (match x with
    | .Raise (some (.Call (.Name n _) [.Constant (.str _) _ _] [] _)) none _ => isNoRow a && decide (c.xn k = some n) && gl sc n
    | _ => false)
  | .try_ b h i cl, x => (match x with
    | .Try y [.ExceptHandler (some (.Name n _)) (some n2) [st] _] [] [] _ => chkSs false N sc b y && decide (c.tr n = some cl) && gl sc n && visB N sc i n2 && decide (sc.names.lookup n2 = some .local) && chkHd c sc n2 h st
    | _ => false)
  | .brk, x => (match x with
    | .Break _ => true
    | _ => false)
  | .cont, x => (match x with
    | .Continue _ => true
    | _ => false)
  | .pass, x => (match x with
    | .Pass _ => true
    | _ => false)
  | .bad, _ => true
def chkSs (L : Bool) (N : List Str) (sc : Scope) : Ss → List Stmt → Bool
  | .nil, xs => (match xs with
    | [] => true
    | _ => false)
  | .cons a r, xs => (match xs with
    | x :: xs => chkS L N sc a x && chkSs L N sc r xs
    | _ => false)
  | .frz _ r, xs => chkSs L N sc r xs
end
end
variable {g : Glob} {k : Nat} {c : Cfg}
theorem nm_of {N : List Str} {sc : Scope} {i : Nat} {n : Str} (h : visB N sc i n = true) : NmOk N sc i n := by
  obtain ⟨h1, h2, h3, h4⟩ := vis_of h
  exact ⟨h1, h2, h3, h4⟩
theorem noSw2 {es : List Expr} {kk : Nat} {p : Pos} {v : Expr} {env : PySem.Env} (h : notTup v = true) : swappedStores [.Tuple es kk p] v env = pure none := by
  cases v <;> first | rfl | cases h
theorem okHd (K : CfgOk g k c) {N : List Str} {sc : Scope} {W : WX} {X : Cx} (G : GoodD g k N sc W X) {i : Nat} {n : Str} {h : Hd} {st : Stmt} (hv : visB N sc i n = true) (hl : sc.names.lookup n = some .local) (hc : chkHd c sc n h st = true) : SuiteOk g X i h st := by
  obtain ⟨h1, h2, h3, h4⟩ := vis_of hv
  have hn : nameIs N sc true i n = true := by simp [nameIs, h1, hl]
  cases h with
  | tf =>
    simp only [chkHd] at hc
    split at hc
    · simp only [Bool.and_eq_true, decide_eq_true_eq] at hc
      obtain ⟨⟨h0, rfl⟩, hg⟩ := hc
      obtain ⟨f, wo⟩ := K.wd _ h0
      exact suite_tf G wo (gl_of G.toGoodX hg) h1 hn h3 h4
    · cases hc
  | wd =>
    simp only [chkHd] at hc
    split at hc
    · simp only [Bool.and_eq_true, decide_eq_true_eq] at hc
      obtain ⟨⟨h0, rfl⟩, hg⟩ := hc
      obtain ⟨f, wo⟩ := K.wd _ h0
      exact suite_wd G wo (gl_of G.toGoodX hg) h1 hn h3 h4
    · cases hc
  | pre _ => cases hc
  | non => cases hc
end Ms

set_option Elab.async false
set_option linter.all false
set_option autoImplicit false
set_option maxRecDepth 100000
set_option maxHeartbeats 8000000
namespace Ms
open PySem PySem.Spec L2 SX
open PyProof.Rows hiding St
variable {g : Glob} {k : Nat} {c : Cfg}
/-- a value, or first_where with its lambda -/
theorem okV (K : CfgOk g k c) {a : E} {L : Bool} {N : List Str} {sc : Scope} {W : WX} {X : Cx} {v : Expr} (G : GoodD g k N sc W X) (HL : L = true → LamEnv g X) (h : (chkE c N sc a v || (L && chkFw c N sc a v)) = true) : PE X v (tM g W (evE (callK g.G g.T k) g.G a)) := by
  rw [Bool.or_eq_true] at h
  rcases h with h | h
  · exact (okE K a _ G.toGoodX h).pe
  · rw [Bool.and_eq_true] at h
    exact okFw K G (HL h.1) h.2
mutual
theorem okSt (K : CfgOk g k c) : ∀ (i : S) {L : Bool} {N : List Str} {sc : Scope} {W : WX} {X : Cx} (x : Stmt), GoodD g k N sc W X → (L = true → LamEnv g X) → chkS c L N sc i x = true → PS X x (tMS g W (evS (callK g.G g.T k) g.G i))
  | .set i a, L, N, sc, W, X, x, G, HL, h => by
    simp only [chkS] at h
    split at h
    · simp only [Bool.and_eq_true] at h
      obtain ⟨⟨h1, h2⟩, h3⟩ := h
      exact ps_set_of (ps_name G h1 (okV K G HL h3) (noSwap h2)) fun _ _ _ q => q
    · cases h
  | .own i f, L, N, sc, W, X, x, G, HL, h => by
    simp only [chkS] at h
    split at h
    · rename_i n np v vp
      simp only [Bool.and_eq_true] at h
      obtain ⟨⟨h1, h2⟩, h3⟩ := h
      cases hn : notComp v with
      | true => exact ps_own_of (ps_name G h1 (okF K f _ G.toGoodX h3).pf (noSwap hn)) fun _ _ _ q => q
      | false =>
        rw [hn, Bool.false_or] at h2
        cases f with
        | lc el tg it co own =>
          simp only [chkF] at h3
          split at h3
          · rename_i y t i2 ifs scope pos
            simp only [Bool.and_eq_true] at h3
            obtain ⟨⟨⟨⟨⟨⟨c1, c2⟩, c3⟩, c4⟩, c5⟩, c6⟩, c7⟩ := h3
            have eo : (ownOf N own).map (·.2) = own := by unfold ownOf; rw [List.map_map]; exact List.map_id _
            have := ps_ownLc (own := ownOf N own) (tgI := tg) (pos := pos) (py := np) (spos := vp) G h1 (okIt K it _ _ G.toGoodX c5) (blkOk_by c1) (fun cl C => by show relS _ X.env.scope = _; rw [G.hsc]) (fun X' G' => pg_of (co := false) G'.calm G'.hK G'.hN G'.nd G'.hsc (fun q => Bool.noConfusion q) c3) (fun X' G' => okC K co _ G' c6) (fun X' G' => (okE K el _ G' c7).pe) c2 (fun i hi => by rw [eo]; exact List.contains_iff_mem.mp (List.all_eq_true.mp c4 i hi))
            rw [eo] at this
            exact this
          · cases h3
        | _ => cases h2
    · cases h
  | .unp is a, L, N, sc, W, X, x, G, HL, h => by
    simp only [chkS] at h
    split at h
    · simp only [Bool.and_eq_true] at h
      obtain ⟨⟨⟨h1, h2⟩, h3⟩, h4⟩ := h
      exact ps_unpE G h1 (okE K a _ G.toGoodX h4).pe h2 (noSw2 h3)
    · cases h
  | .ex a, L, N, sc, W, X, x, G, HL, h => by
    simp only [chkS] at h
    split at h
    · simp only [Bool.and_eq_true] at h
      exact ps_exE (okE K a _ G.toGoodX h.2).pe h.1
    · cases h
  | .app i a, L, N, sc, W, X, x, G, HL, h => by
    simp only [chkS] at h
    split at h
    · simp only [Bool.and_eq_true, decide_eq_true_eq] at h
      obtain ⟨⟨⟨⟨rfl, h2⟩, h3⟩, h4⟩, h5⟩ := h
      exact ps_appE G.toGoodX (nm_of h2) (okE K a _ G.toGoodX h5).pe h3 h4
    · cases h
  | .ext i a, L, N, sc, W, X, x, G, HL, h => by
    simp only [chkS] at h
    split at h
    · simp only [Bool.and_eq_true, decide_eq_true_eq] at h
      obtain ⟨⟨⟨⟨rfl, h2⟩, h3⟩, h4⟩, h5⟩ := h
      exact ps_extE G.toGoodX (nm_of h2) (okE K a _ G.toGoodX h5).pe h3 h4
    · cases h
  | .appS o a, L, N, sc, W, X, x, G, HL, h => by
    simp only [chkS] at h
    split at h
    · simp only [Bool.and_eq_true, decide_eq_true_eq] at h
      obtain ⟨⟨⟨⟨⟨rfl, h2⟩, h3⟩, h4⟩, h5⟩, h6⟩ := h
      exact ps_appSE (okE K o _ G.toGoodX h5).pe (okE K a _ G.toGoodX h6).pe h2 h3 h4
    · cases h
  | .setI o a b, L, N, sc, W, X, x, G, HL, h => by
    simp only [chkS] at h
    split at h
    · simp only [Bool.and_eq_true] at h
      obtain ⟨⟨⟨⟨h1, h2⟩, h3⟩, h4⟩, h5⟩ := h
      exact ps_setIE (okE K o _ G.toGoodX h3).pe (okE K a _ G.toGoodX h4).pe (okE K b _ G.toGoodX h5).pe h1 h2
    · cases h
  | .setF o f b, L, N, sc, W, X, x, G, HL, h => by
    simp only [chkS] at h
    split at h
    · simp only [Bool.and_eq_true, decide_eq_true_eq] at h
      obtain ⟨⟨⟨h1, h2⟩, h3⟩, h4⟩ := h
      obtain ⟨e, F⟩ := K.fd _ _ h1
      exact ps_setFE G.toGoodX e F (okE K o _ G.toGoodX h3).pe (okE K b _ G.toGoodX h4).pe h2
    · cases h
  | .ret a, L, N, sc, W, X, x, G, HL, h => by
    simp only [chkS] at h
    split at h
    · exact ps_retE (okV K G HL h)
    · cases h
  | .retN, L, N, sc, W, X, x, G, HL, h => by
    simp only [chkS] at h
    split at h
    · exact ps_retNE
    · cases h
  | .ifs t a b, L, N, sc, W, X, x, G, HL, h => by
    simp only [chkS] at h
    split at h
    · simp only [Bool.and_eq_true] at h
      obtain ⟨⟨h1, h2⟩, h3⟩ := h
      exact ps_ifE (okE K t _ G.toGoodX h1).pt (okSs K a _ G HL h2) (okSs K b _ G HL h3)
    · cases h
  | .for_ tg it b, L, N, sc, W, X, x, G, HL, h => by
    simp only [chkS] at h
    split at h
    · simp only [Bool.and_eq_true] at h
      obtain ⟨⟨⟨h1, h2⟩, h3⟩, h4⟩ := h
      exact ps_forE G (okIt K it _ _ G.toGoodX h3) (pg_of (co := true) G.calm G.hK G.hN G.nd G.hsc (fun _ => G.fn) h1) (okSs K b _ G HL h4) h2
    · cases h
  | .while_ t b, L, N, sc, W, X, x, G, HL, h => by
    simp only [chkS] at h
    split at h
    · simp only [Bool.and_eq_true] at h
      exact ps_whileE G (okE K t _ G.toGoodX h.1).pt (okSs K b _ G HL h.2)
    · cases h
  | .raise_ cc a, L, N, sc, W, X, x, G, HL, h => by
    simp only [chkS] at h
    split at h
    · simp only [Bool.and_eq_true, decide_eq_true_eq] at h
      obtain ⟨⟨h0, h1⟩, h2⟩ := h
      obtain ⟨hm, db, xo⟩ := K.xn _ _ h1
      have e := noRow_of h0
      subst e
      exact ps_raiseE G.toGoodX xo (gl_of G.toGoodX h2) hm db
    · cases h
  | .try_ b h' i cl, L, N, sc, W, X, x, G, HL, h => by
    simp only [chkS] at h
    split at h
    · simp only [Bool.and_eq_true, decide_eq_true_eq] at h
      obtain ⟨⟨⟨⟨⟨h1, h2⟩, h3⟩, h4⟩, h5⟩, h6⟩ := h
      obtain ⟨db, cv, hm, hx⟩ := K.tr _ _ h2
      exact ps_tryE G (vis_of h4).1 h5 ⟨gl_of G.toGoodX h3, db, .inl (by rw [G.hmg]; exact hm)⟩ hx (fun X' W' G' => okSs K b _ G' (fun q => Bool.noConfusion q) h1) (okHd K G h4 h5 h6)
    · cases h
  | .brk, L, N, sc, W, X, x, G, HL, h => by
    simp only [chkS] at h
    split at h
    · exact ps_brkE
    · cases h
  | .cont, L, N, sc, W, X, x, G, HL, h => by
    simp only [chkS] at h
    split at h
    · exact ps_contE
    · cases h
  | .pass, L, N, sc, W, X, x, G, HL, h => by
    simp only [chkS] at h
    split at h
    · exact ps_passE
    · cases h
  | .bad, L, N, sc, W, X, x, G, HL, h => ps_badE
  | .par is a, L, N, sc, W, X, x, G, HL, h => by
    simp only [chkS] at h
    split at h
    · simp only [Bool.and_eq_true, decide_eq_true_eq] at h
      obtain ⟨⟨⟨⟨h1, h2⟩, h3⟩, h4⟩, h5⟩ := h
      obtain ⟨kk, p, ev⟩ := tup_form h1
      rw [ev] at h5 ⊢
      exact ps_parE G.toGoodX (loc1_of h2) (okE K a _ G.toGoodX h5).pe (swTup_of (by unfold Env.blockKind; rw [G.hsc, h3]; rfl) G.hsc h4) rfl
    · cases h
  | .paro i j a f, L, N, sc, W, X, x, G, HL, h => by
    simp only [chkS] at h
    split at h
    · simp only [Bool.and_eq_true, decide_eq_true_eq] at h
      obtain ⟨⟨⟨⟨⟨⟨h1, h2⟩, h3⟩, h4⟩, h5⟩, h6⟩, h7⟩ := h
      exact ps_paroE G.toGoodX (loc1_of h1) (okE K a _ G.toGoodX h6).pe (okF K f _ G.toGoodX h7).pf h4 h5 (swTup_of (by unfold Env.blockKind; rw [G.hsc, h2]; rfl) G.hsc h3)
    · cases h
  | .ins i a b, L, N, sc, W, X, x, G, HL, h => by
    simp only [chkS] at h
    split at h
    · simp only [Bool.and_eq_true, decide_eq_true_eq] at h
      obtain ⟨⟨⟨⟨⟨⟨rfl, h2⟩, h3⟩, h4⟩, h5⟩, h6⟩, h7⟩ := h
      exact ps_insE G.toGoodX (nm_of h2) (okE K a _ G.toGoodX h6).pe (okE K b _ G.toGoodX h7).pe h3 h4 h5
    · cases h
  | .setO i a b, L, N, sc, W, X, x, G, HL, h => by
    simp only [chkS] at h
    split at h
    · simp only [Bool.and_eq_true] at h
      obtain ⟨⟨⟨⟨h1, h2⟩, h3⟩, h4⟩, h5⟩ := h
      exact ps_setOE G.toGoodX (nm_of h1) (okE K a _ G.toGoodX h4).pe (okE K b _ G.toGoodX h5).pe h2 h3
    · cases h
  | .unp2 i o a b, L, N, sc, W, X, x, G, HL, h => by
    simp only [chkS] at h
    split at h
    · simp only [Bool.and_eq_true, decide_eq_true_eq] at h
      obtain ⟨⟨⟨⟨⟨⟨⟨h1, h2⟩, h3⟩, h4⟩, h5⟩, h6⟩, h7⟩, h8⟩ := h
      obtain ⟨kk, p, ev⟩ := tup_form h1
      rw [ev] at h8 ⊢
      exact ps_unp2E G h2 (okE K o _ G.toGoodX h6).pe (okE K a _ G.toGoodX h7).pe (okE K b _ G.toGoodX h8).pe h3 rfl (swTup_of (by unfold Env.blockKind; rw [G.hsc, h4]; rfl) G.hsc h5)
    · cases h
theorem okSs (K : CfgOk g k c) : ∀ (i : Ss) {L : Bool} {N : List Str} {sc : Scope} {W : WX} {X : Cx} (xs : List Stmt), GoodD g k N sc W X → (L = true → LamEnv g X) → chkSs c L N sc i xs = true → PSs X xs (tMS g W (evSs (callK g.G g.T k) g.G i))
  | .nil, L, N, sc, W, X, xs, G, HL, h => by
    simp only [chkSs] at h
    split at h
    · exact pss_nilE
    · cases h
  | .cons a r, L, N, sc, W, X, xs, G, HL, h => by
    simp only [chkSs] at h
    split at h
    · simp only [Bool.and_eq_true] at h
      exact pss_consE (okSt K a _ G HL h.1) (okSs K r _ G HL h.2)
    · cases h
  | .frz i r, L, N, sc, W, X, xs, G, HL, h => by
    simp only [chkSs] at h
    exact pss_frzE (okSs K r _ G HL h)
end
end Ms

set_option Elab.async false
set_option linter.all false
set_option autoImplicit false
set_option maxRecDepth 100000
set_option maxHeartbeats 2000000
namespace Ms
open PySem PySem.Spec L2 SX
open PyProof.Rows hiding St
section
variable {g : Glob} {k : Nat} {c : Cfg}
theorem spec_len {f : Nat} {F : Fn} (hT : g.T f = some F) {vs : List V} {H : Hp} {Q : VK} {E : XK} (h : specOf g k f vs H Q E) : vs.length = F.p := by
  obtain ⟨Z, S, s, ds, q, dn, h⟩ := h
  rw [dn.length]
  cases k with
  | zero => exact h.elim
  | succ k =>
    simp only [callK, hT] at h
    by_cases e : ds.length = F.p
    · exact e
    · rw [if_neg e] at h; exact h.elim
/-- one level up: a def whose text the checker knows keeps its promise -/
theorem fn_succ (K : CfgOk g k c) {f : Nat} {name qual : Str} {params : Arguments} {body : List Stmt} {scope : Scope} {dV kV doc pm cdv ct oc : Value} {an od : Option Addr} {osl : Array (Option Value)} {N ps : List Str} {b : Ss}
    (lk : g.K.lookup (g.fa f) = some ⟨oc, od, .func (PySem.W.fnOf name qual params body scope dV kV doc pm an cdv ct), osl⟩) (hcd : PySem.W.codeIn g.K cdv qual = true) (S : FnScope N ps scope) {L : Bool} (hlam : L = true → ∃ cc PP, cdv = .ref cc ∧ LamX.TabB g.base g.mg cc PP ∧ (PP, (qual ++ ".<locals>.") ++ "<lambda>") ∈ g.tabs ∧ ∀ p ∈ g.tabs, p.1 = PP → p.2 = (qual ++ ".<locals>.") ++ "<lambda>") (hT : g.T f = some ⟨N.length, ps.length, b⟩) (hchk : chkSs c L N scope b body = true) :
    FnOk g.P g.w g.K g.mg g.base (L2N.CX g.P g.w) (4 * (k + 1)) (g.fa f) (PySem.W.fnOf name qual params body scope dV kV doc pm an cdv ct) ps (specOf g (k + 1) f) := by
  refine fn_of (k := 4 * k + 3) (N := N) lk hcd S (fun vs H Q E h => spec_len hT h) fun A outer s H vs Q E hr h => ?_
  have hl := spec_len hT h
  obtain ⟨Z, S0, st, ds, q, dn, h⟩ := h
  have G : GoodD g k N scope (fun cls d _ H => E cls d H) (cxOf (L2N.CX g.P g.w) g.P g.w g.K g.mg g.base N qual scope (g.fa f) cdv A outer s H E) :=
    ⟨⟨rfl, rfl, rfl, rfl, rfl, rfl, S.nd, rfl, rfl, hr.mono (by omega), L2N.takes_of rfl rfl rfl rfl⟩, fun _ => rfl, rfl, rfl, hr, passes_of rfl⟩
  refine ⟨_, okSs K b body G (fun q => hlam q) hchk, tMS_iff.mpr ⟨⟨S0, Z, H⟩, Z, S0, startE N.length ds, st, ?_, ?_⟩⟩
  · have := start_rel q dn (N.length - ds.length)
    unfold startE L2.start
    rw [dn.length]
    exact this
  · have e : ds.length = ps.length := by rw [← dn.length]; exact hl
    simp only [callK, hT, e, if_true, runB] at h
    cases hv : evSs (callK g.G g.T k) g.G b (startE N.length ds) st with
    | nx e1 s1 =>
      rw [hv] at h
      exact fun σ' Z' S' H' R' _ => h .non Z' S' H' R'.sto R'.ext .non
    | rt d s1 =>
      rw [hv] at h
      exact fun v Z' S' H' q' x' dn' => h v Z' S' H' q' x' dn'
    | bk _ _ => rw [hv] at h; exact h.elim
    | ct _ _ => rw [hv] at h; exact h.elim
    | ex cc r e1 s1 =>
      rw [hv] at h
      exact fun dd σ' Z' S' H' R' _ er => h dd Z' S' H' R'.sto R'.ext er
    | bad => rw [hv] at h; exact h.elim
/-- at level 0 nothing is promised -/
theorem fn_zero {f : Nat} {name qual : Str} {params : Arguments} {body : List Stmt} {scope : Scope} {dV kV doc pm cdv ct oc : Value} {an od : Option Addr} {osl : Array (Option Value)} {N ps : List Str} :
    FnOk g.P g.w g.K g.mg g.base (L2N.CX g.P g.w) (4 * 0) (g.fa f) (PySem.W.fnOf name qual params body scope dV kV doc pm an cdv ct) ps (specOf g 0 f) := by
  refine ⟨fun vs H Q E h => ?_, fun A outer s H args us vs Q E hr e0 hb r h => ?_⟩
  · obtain ⟨Z, S, s, ds, q, dn, h⟩ := h; exact h.elim
  · obtain ⟨Z, S, s, ds, q, dn, h⟩ := h; exact h.elim
end
end Ms

set_option Elab.async false
set_option linter.all false
set_option autoImplicit false
set_option maxRecDepth 100000
set_option maxHeartbeats 2000000
namespace Ms
open PySem PySem.Spec L2 SX
open PyProof.Rows hiding St
/-- a def of the module, its text known to the checker -/
def DefRow (g : Glob) (c : Cfg) (f : Nat) : Prop :=
  ∃ (name qual : Str) (params : Arguments) (body : List Stmt) (scope : Scope) (dV kV doc pm cdv ct oc : Value) (an od : Option Addr) (osl : Array (Option Value)) (N ps : List Str) (b : Ss) (L : Bool),
    g.K.lookup (g.fa f) = some ⟨oc, od, .func (PySem.W.fnOf name qual params body scope dV kV doc pm an cdv ct), osl⟩ ∧ PySem.W.codeIn g.K cdv qual = true ∧ FnScope N ps scope ∧ g.T f = some ⟨N.length, ps.length, b⟩ ∧ chkSs c L N scope b body = true ∧ (L = true → ∃ cc PP, cdv = .ref cc ∧ LamX.TabB g.base g.mg cc PP ∧ (PP, (qual ++ ".<locals>.") ++ "<lambda>") ∈ g.tabs ∧ ∀ p ∈ g.tabs, p.1 = PP → p.2 = (qual ++ ".<locals>.") ++ "<lambda>") ∧
      PySem.W.keepIn g.K (.ref (g.fa f)) = true ∧ L2.Binds g.K (PySem.W.fnOf name qual params body scope dV kV doc pm an cdv ct) ps []
/-- what the module must bear, whatever the level -/
structure CfgSt (g : Glob) (c : Cfg) : Prop where
  fn : ∀ f x, c.fn f = some x → g.mg x = some (.ref (g.fa f)) ∧ (x == ("__debug__" : Str)) = false ∧ DefRow g c f
  dy : ∀ f, g.dyf f = true → DefRow g c f
  mks : ∀ cc f x, c.mks cc f = some x → g.mg x = some (.ref (g.ca cc)) ∧ (x == ("__debug__" : Str)) = false ∧ Mk g.K (g.ca cc) (g.fa f) ∧ DefRow g c f
  xn : ∀ cc x, c.xn cc = some x → g.mg x = some (.ref (g.xa cc)) ∧ (x == ("__debug__" : Str)) = false ∧ ExOk g cc
  gn : ∀ j x, c.gn j = some x → (x == ("__debug__" : Str)) = false ∧ ∃ u v, g.mg x = some u ∧ RelV v u ∧ ∀ Z S, Den g Z S v (g.G j)
  fd : ∀ f x, c.fd f = some x → x = g.fnm f ∧ ∀ cc, FldOk g cc f
  mt : ∀ cc f x, c.mt cc f = some x → MetOk g cc f x ∧ DefRow g c f
  bi : ∀ x, c.bi x = true → g.mg x = none
  tr : ∀ x cl, c.tr x = some cl → (x == ("__debug__" : Str)) = false ∧ ∃ cv, g.mg x = some cv ∧ ∀ cc, cc < 24 → PySem.W.exmOne g.K (.ref (g.xa cc)) cv = some (cl.contains cc)
  fw : ∀ x, c.fw = some x → ∃ gg, FwOk g x gg
  wd : ∀ x, c.wd = some x → ∃ f, WordOk g f x
  tg : ∀ j x, c.tg j = some x → TgOk g j x
section
variable {g : Glob} {c : Cfg}
theorem DefRow.zero {f : Nat} (d : DefRow g c f) : FnAt g 0 f := by
  obtain ⟨name, qual, params, body, scope, dV, kV, doc, pm, cdv, ct, oc, an, od, osl, N, ps, b, L, lk, hcd, S, hT, hchk, hlam, hk, hb⟩ := d
  exact ⟨_, ps, fn_zero (od := od) (osl := osl) (N := N) (oc := oc), hk, hb⟩
theorem DefRow.succ {k f : Nat} (K : CfgOk g k c) (d : DefRow g c f) : FnAt g (k + 1) f := by
  obtain ⟨name, qual, params, body, scope, dV, kV, doc, pm, cdv, ct, oc, an, od, osl, N, ps, b, L, lk, hcd, S, hT, hchk, hlam, hk, hb⟩ := d
  exact ⟨_, ps, fn_succ K lk hcd S hlam hT hchk, hk, hb⟩
theorem cfg_of (T : CfgSt g c) {k : Nat} (h : ∀ f, DefRow g c f → FnAt g k f) : CfgOk g k c where
  fn := fun f x e => ⟨(T.fn f x e).1, (T.fn f x e).2.1, h f (T.fn f x e).2.2⟩
  dy := fun f e => h f (T.dy f e)
  mks := fun cc f x e => by
    obtain ⟨h1, h2, h3, h4⟩ := T.mks cc f x e
    obtain ⟨fd, ps, F, _, hb⟩ := h f h4
    exact ⟨h1, h2, h3, fd, ps, F, hb⟩
  xn := T.xn
  gn := T.gn
  fd := T.fd
  mt := fun cc f x e => ⟨(T.mt cc f x e).1, h f (T.mt cc f x e).2⟩
  bi := T.bi
  tr := T.tr
  fw := T.fw
  wd := T.wd
  tg := T.tg
/-- every def keeps its promise at every level -/
theorem cfg_all (T : CfgSt g c) : ∀ k, CfgOk g k c
  | 0 => cfg_of T fun f d => d.zero
  | k + 1 => cfg_of T fun f d => d.succ (cfg_all T k)
theorem fn_all (T : CfgSt g c) (k : Nat) {f : Nat} (d : DefRow g c f) : FnAt g k f := by
  cases k with
  | zero => exact d.zero
  | succ k => exact d.succ (cfg_all T k)
end
end Ms

set_option Elab.async false
set_option linter.all false
set_option autoImplicit false
set_option maxRecDepth 100000
set_option maxHeartbeats 2000000
namespace Ms
open PySem PySem.Spec L2 SX
open PyProof.Rows hiding St
/-! ## A law's data, and what follows of the looks at it -/
theorem lookup_zip {ps : List Str} : ∀ {us : List Value}, us.length = ps.length → ∀ n ∈ ps, ((ps.zip us).lookup n).isSome = true := by
  induction ps with
  | nil => intro us _ n h; cases h
  | cons p r ih =>
    intro us hl n h
    cases us with
    | nil => cases hl
    | cons u us =>
      simp only [List.zip_cons_cons, List.lookup_cons]
      cases e : n == p with
      | true => rfl
      | false =>
        refine ih (by simpa using hl) n ?_
        rcases List.mem_cons.mp h with q | q
        · subst q; simp at e
        · exact q
theorem fm_congr {α β : Type} {f g : α → Option β} : ∀ {l : List α}, (∀ x ∈ l, f x = g x) → l.filterMap f = l.filterMap g
  | [], _ => rfl
  | a :: l, h => by
    rw [List.filterMap_cons, List.filterMap_cons, h a List.mem_cons_self, fm_congr fun x hx => h x (List.mem_cons_of_mem _ hx)]
theorem fm_zip {ps : List Str} : ∀ {us : List Value}, us.length = ps.length → ps.Nodup → ps.filterMap (fun n => ((ps.zip us).lookup n).map (n, ·)) = ps.zip us := by
  induction ps with
  | nil => intro us _ _; rfl
  | cons p r ih =>
    intro us hl nd
    cases us with
    | nil => cases hl
    | cons u us =>
      obtain ⟨n1, n2⟩ := List.nodup_cons.mp nd
      have e : (p == p) = true := by simp
      simp only [List.zip_cons_cons, List.filterMap_cons, List.lookup_cons, e, Option.map_some]
      congr 1
      refine Eq.trans (fm_congr fun x hx => ?_) (ih (us := us) (by simpa using hl) n2)
      have : (x == p) = false := by
        cases q : x == p with
        | false => rfl
        | true => exact absurd (by rw [← eq_of_beq q]; exact hx) n1
      rw [this]
theorem bind_plain (x qual : Str) (as : List Arg) (body : List Stmt) (scope : Scope) (kV doc pm : Value) (an : Option Addr) (cdv ct : Value) (us : List Value) (hl : us.length = (as.map (·.arg)).length) (nd : (as.map (·.arg)).Nodup) :
    bindArgs (PySem.W.fnOf x qual ⟨[], as, none, [], [], none, []⟩ body scope .none kV doc pm an cdv ct) ⟨us, []⟩ = pure ((as.map (·.arg)).zip us) := by
  have e1 : ((as.map (·.arg)).filter fun n => (((as.map (·.arg)).zip us).lookup n).isNone) = [] := by
    rw [List.filter_eq_nil_iff]
    intro n hn
    have := lookup_zip hl n hn
    cases q : ((as.map (·.arg)).zip us).lookup n with
    | none => rw [q] at this; cases this
    | some _ => simp
  have e2 := fm_zip hl nd
  generalize hps : as.map (·.arg) = ps at *
  unfold bindArgs PySem.W.fnOf
  simp only [hps]
  simp [seqItems?, hl, e1, e2]
  rfl
def plainArgs : Arguments → Bool
  | ⟨[], _, none, [], [], none, []⟩ => true
  | _ => false
theorem plainArgs_eq {a : Arguments} (h : plainArgs a = true) : a = ⟨[], a.args, none, [], [], none, []⟩ := by
  unfold plainArgs at h
  split at h
  · rfl
  · cases h
def fnScopeB (N ps : List Str) (sc : Scope) : Bool :=
  decide (sc.kind = .function) && !sc.isCoroutine && !sc.isGenerator && decide N.Nodup && decide (N.take ps.length = ps) && ps.all (fun x => decide (sc.names.lookup x = some .local) || decide (sc.names.lookup x = some .cell)) && sc.names.all (fun y => !decide (y.2 = .free))
theorem fnScope_by {N ps : List Str} {sc : Scope} (h : fnScopeB N ps sc = true) : FnScope N ps sc := by
  unfold fnScopeB at h
  simp only [Bool.and_eq_true, Bool.not_eq_true', decide_eq_true_eq, List.all_eq_true, Bool.or_eq_true, decide_eq_false_iff_not] at h
  obtain ⟨⟨⟨⟨⟨⟨h1, h2⟩, h3⟩, h4⟩, h5⟩, h6⟩, h7⟩ := h
  exact ⟨h1, h2, h3, h4, h5, h6, h7⟩
def DR.chk (T : Nat → Option Fn) (c : Cfg) (d : DR) : Bool :=
  plainArgs (defArgs d.st) && decide d.ps.Nodup && fnScopeB d.N d.ps (defScope d.st) && (match T d.f with
    | some ⟨n, p, b⟩ => decide (n = d.N.length) && decide (p = d.ps.length) && chkSs c d.lam d.N (defScope d.st) b (defBody d.st)
    | none => false)
theorem DR.binds {K : PySem.W.Frag} {d : DR} {fd : FuncData} {f : Addr} (h1 : plainArgs (defArgs d.st) = true) (h2 : d.ps.Nodup) (F : FunD K d.name d.qual (defArgs d.st) (defBody d.st) (defScope d.st) [] [] f fd) : (∀ (s : Shared) (us : List Value), us.length = d.ps.length → BindsTo s fd ⟨us, []⟩ (d.ps.zip us)) ∧ L2.Binds K fd d.ps [] := by
  have e : ∀ (kV doc pm : Value) (an : Option Addr) (cdv ct : Value) (us : List Value), us.length = d.ps.length → bindArgs (PySem.W.fnOf d.name d.qual (defArgs d.st) (defBody d.st) (defScope d.st) .none kV doc pm an cdv ct) ⟨us, []⟩ = pure (d.ps.zip us) := by
    intro kV doc pm an cdv ct us hl
    rw [plainArgs_eq h1]
    exact bind_plain _ _ _ _ _ _ _ _ _ _ _ _ hl h2
  exact ⟨fun s us hl => F.bindsA e s us hl, F.bindsN e⟩

section
variable (l : LD)
def LD.fnm (f : Nat) : Str := match l.fdn.lookup f with
  | some x => x
  | none => ⟨#[2000000 + f]⟩
def LD.tabs (K : PySem.W.Frag) : List (Addr × Str) := l.tf.map fun x => ((He.cT K (x, none)).2, (x ++ ".<locals>.") ++ "<lambda>")
def LD.cfg : Cfg where
  fn f := match l.defs.find? (fun d => d.f == f) with
    | some d => if d.at_.2.isNone then some d.at_.1 else none
    | none => none
  mks cc f := (l.mks.find? fun p => p.1 == cc && p.2.1 == f).map fun p => p.2.2
  xn cc := l.xr.lookup cc
  gn j := match l.gns.lookup j with
    | some x => some x
    | none => (l.dns.lookup j).map fun p => p.1
  fd f := l.fdn.lookup f
  mt cc f := (l.mts.find? fun p => p.1 == cc && p.2.1 == f).map fun p => p.2.2
  bi x := l.bi.contains x
  tr x := if x = ("DeckError" : Str) then some (List.range 24) else none
  fw := l.fwd.map fun d => d.at_.1
  wd := l.wdd.map fun d => d.at_.1
  tg j := l.tgs.lookup j
def LD.g (w : World) (K : PySem.W.Frag) (mg : Str → Option Value) (base : Heap) : Glob where
  P := l.prog
  w := w
  K := K
  mg := mg
  base := base
  T := l.T
  G := l.G
  fa := l.fa K
  xa := l.xa K
  ca := l.ca K
  fnm := l.fnm
  tabs := l.tabs K
  dyf f := l.dy.contains f
/-! ### the module's values -/
def valOf : Value → V
  | .none => .non
  | .bool b => .bl b
  | .int i _ => .int i
  | .str s _ => .str s
  | .ref a => .ref a
  | .type n => .ty n
  | _ => .non
variable {l}
mutual
theorem denB_ok {w : World} {K : PySem.W.Frag} {mg : Str → Option Value} {base : Heap} {Z : Hp} {S : List Addr} : ∀ {d : D} {u : Value}, denB l K d u = true → RelV (valOf u) u ∧ Den (l.g w K mg base) Z S (valOf u) d
  | .non, u, h => by
    simp only [denB] at h
    split at h
    · exact ⟨rfl, .non⟩
    · cases h
  | .bl b, u, h => by
    simp only [denB] at h
    split at h
    · rw [eq_of_beq h]; exact ⟨rfl, .bl _⟩
    · cases h
  | .int i, u, h => by
    simp only [denB] at h
    split at h
    · rw [of_decide_eq_true h]; exact ⟨⟨_, rfl⟩, .int _⟩
    · cases h
  | .str s, u, h => by
    simp only [denB] at h
    split at h
    · rename_i y t
      simp only [Bool.and_eq_true, decide_eq_true_eq] at h
      obtain ⟨rfl, h2⟩ := h
      have e : V.str y = strV y.cps.toList := by unfold strV; cases y; simp
      exact ⟨⟨_, rfl⟩, by show Den _ Z S (V.str y) _; rw [e]; exact .str _ (fun c hc => of_decide_eq_true (List.all_eq_true.mp h2 c hc))⟩
    · cases h
  | .tup ds, u, h => by
    simp only [denB] at h
    split at h
    · rename_i a
      split at h
      · rename_i c od its n sl lk
        simp only [Bool.and_eq_true, decide_eq_true_eq] at h
        obtain ⟨⟨rfl, h2⟩, h3⟩ := h
        obtain ⟨r, dn⟩ := denBL_ok (w := w) (mg := mg) (base := base) (Z := Z) (S := S) h3
        exact ⟨rfl, .tup (.inr ⟨_, its, n, lk, rfl, rfl, h2, r⟩) dn⟩
      · cases h
    · cases h
  | .fn n, u, h => by
    simp only [denB] at h
    split at h
    · simp only [Bool.and_eq_true, decide_eq_true_eq] at h
      obtain ⟨rfl, h2⟩ := h
      exact ⟨rfl, .fn n h2⟩
    · cases h
  | .lst _, u, h => by simp [denB] at h
  | .dct _, u, h => by simp [denB] at h
  | .obj _, u, h => by simp [denB] at h
  | .frz _, u, h => by simp [denB] at h
theorem denBL_ok {w : World} {K : PySem.W.Frag} {mg : Str → Option Value} {base : Heap} {Z : Hp} {S : List Addr} : ∀ {ds : List D} {us : List Value}, denBL l K ds us = true → Vals (us.map valOf) us ∧ DenL (l.g w K mg base) Z S (us.map valOf) ds
  | [], us, h => by
    simp only [denBL, List.isEmpty_iff] at h
    subst h
    exact ⟨.nil, .nil⟩
  | d :: ds, us, h => by
    simp only [denBL] at h
    split at h
    · rename_i u us
      rw [Bool.and_eq_true] at h
      obtain ⟨r1, d1⟩ := denB_ok (w := w) (mg := mg) (base := base) (Z := Z) (S := S) h.1
      obtain ⟨r2, d2⟩ := denBL_ok (w := w) (mg := mg) (base := base) (Z := Z) (S := S) h.2
      exact ⟨.cons r1 r2, .cons d1 d2⟩
    · cases h
end
end
end Ms

set_option Elab.async false
set_option linter.all false
set_option autoImplicit false
set_option maxRecDepth 100000
set_option maxHeartbeats 2000000
namespace Ms
open PySem PySem.Spec L2 SX
open PyProof.Rows hiding St
/-! ## From looks to facts -/
variable {l : LD} {w : World} {K : PySem.W.Frag} {mg : Str → Option Value} {base h : Heap}
/-! ### dicts of the top -/
theorem keys_es {P : Params} : ∀ {l : List DictEntry} {ks : List Str}, l.map He.keyOf = He.keysIn P ks → ∀ e ∈ l, ∃ k t, e.key = .str k t ∧ k ∈ ks
  | [], _, _, e, h => by cases h
  | e :: r, [], h, _, _ => by cases h
  | e :: r, k :: ks, h, x, hx => by
    have h1 : He.keyOf e :: r.map He.keyOf = some (k, PyData.keyHash P k) :: He.keysIn P ks := h
    injection h1 with h2 h3
    rcases List.mem_cons.mp hx with q | q
    · subst q
      unfold He.keyOf at h2
      split at h2
      · rename_i y t q
        have h4 := Option.some.inj h2
        obtain ⟨h5, h6⟩ := Prod.mk.inj h4
        exact ⟨y, t, q, by rw [h5]; exact List.mem_cons_self⟩
      · cases h2
    · obtain ⟨k', t, e1, e2⟩ := keys_es h3 x q
      exact ⟨k', t, e1, List.mem_cons_of_mem _ e2⟩
theorem ns_none {P : Params} {a : Addr} {ks : List Str} (h : He.dicW K a = some (He.keysIn P ks)) {z : Str} (hz : z ∉ ks) : PySem.W.nsIn K a z = some none := by
  unfold He.dicW at h
  unfold PySem.W.nsIn
  cases q : K.lookup a with
  | none => rw [q] at h; cases h
  | some o =>
    obtain ⟨oc, od, dt, osl⟩ := o
    rw [q] at h
    cases oc with
    | type c =>
      cases od with
      | none =>
        cases dt with
        | dict es n =>
          dsimp only at h ⊢
          split at h
          · have hk := keys_es (Option.some.inj h)
            have e1 : es.toList.find? (·.key.isStr z) = none := by
              rw [List.find?_eq_none]
              intro e he
              obtain ⟨k, t, e1, e2⟩ := hk e he
              rw [e1]
              intro c
              have : k = z := by simpa [Value.isStr] using c
              exact hz (this ▸ e2)
            have e2 : es.toList.any (·.refKey) = false := by
              rw [List.any_eq_false]
              intro e he
              obtain ⟨k, t, e1, e2⟩ := hk e he
              simp [DictEntry.refKey, e1]
            rw [e1, e2]
            rfl
          · cases h
        | _ => cases h
      | some b => cases dt <;> cases h
    | _ => cases od <;> cases dt <;> cases h
def vAt (K : PySem.W.Frag) (a : Addr) (k : Str) : V := match PySem.W.nsIn K a k with
  | some (some u) => valOf u
  | _ => .non
theorem val_map {K : PySem.W.Frag} {a : Addr} {z : Str} : ∀ {kvs : List (Str × D)}, valV (kvs.map fun q => ((.inr q.1, vAt K a q.1) : Key × V)) (.inr z) = if z ∈ kvs.map (·.1) then some (vAt K a z) else none
  | [] => rfl
  | q :: r => by
    have ih := val_map (K := K) (a := a) (z := z) (kvs := r)
    unfold valV at ih ⊢
    simp only [List.map_cons, List.find?_cons]
    by_cases e : q.1 = z
    · subst e
      simp
    · have e2 : decide ((Sum.inr q.1 : Key) = Sum.inr z) = false := by
        rw [decide_eq_false_iff_not]
        intro c
        injection c with c
        exact e c
      rw [e2]
      simp only
      rw [ih]
      have e3 : ¬ z = q.1 := fun c => e c.symm
      simp only [List.mem_cons, e3, false_or]
theorem dict_ok {name : Str} {kvs : List (Str × D)} (hd : ∃ es n, KDict K w (He.ga K name) es n) (h : He.dicW K (He.ga K name) = some (He.keysIn w.params (kvs.map (·.1)))) (hv : kvsB l K (He.ga K name) kvs = true) (Z : Hp) (S : List Addr) :
    Den (l.g w K mg base) Z S (.ref (He.ga K name)) (.dct (kvs.map fun q => (.str q.1.cps.toList, q.2))) := by
  obtain ⟨es, n, hd⟩ := hd
  refine .kdct (kvs := kvs.map fun q => (.inr q.1, vAt K (He.ga K name) q.1)) ⟨es, n, hd, fun z => ?_⟩ ?_
  · rw [val_map]
    by_cases m : z ∈ kvs.map (·.1)
    · rw [if_pos m]
      obtain ⟨q, hq, e⟩ := List.mem_map.mp m
      have := List.all_eq_true.mp hv q hq
      rw [e] at this
      rw [Bool.and_eq_true] at this
      have h2 := this.2
      show ∃ u, PySem.W.nsIn K _ z = some (some u) ∧ _
      cases c : PySem.W.nsIn K (He.ga K name) z with
      | none => rw [c] at h2; cases h2
      | some r =>
        cases r with
        | none => rw [c] at h2; cases h2
        | some u =>
          rw [c] at h2
          refine ⟨u, rfl, ?_⟩
          unfold vAt
          rw [c]
          exact (denB_ok (w := w) (mg := mg) (base := base) (Z := Z) (S := S) h2).1
    · rw [if_neg m]
      exact ns_none h m
  · clear h hd
    induction kvs with
    | nil => exact .nil
    | cons q r ih =>
      unfold kvsB at hv
      simp only [List.all_cons, Bool.and_eq_true] at hv
      obtain ⟨⟨h1, h2⟩, h3⟩ := hv
      refine .cons ⟨?_, fun c hc => of_decide_eq_true (List.all_eq_true.mp h1 c hc)⟩ ?_ (ih h3)
      · cases q.1; simp
      · unfold vAt
        cases c : PySem.W.nsIn K (He.ga K name) q.1 with
        | none => rw [c] at h2; cases h2
        | some r =>
          cases r with
          | none => rw [c] at h2; cases h2
          | some u => rw [c] at h2; exact (denB_ok h2).2
/-! ### all looks -/
def notDb (x : Str) : Bool := !(x == ("__debug__" : Str))
def lowS (x : Str) : Bool := x.cps.toList.all fun c => decide (c < 2000000)
/-- what does not lean on the run -/
def LD.stB (l : LD) : Bool :=
  (l.all.all fun d => plainArgs (defArgs d.st) && decide d.ps.Nodup && notDb d.at_.1) &&
  ((l.defs.all fun d => d.chk l.T l.cfg && (!d.lam || (decide (d.at_ = (d.qual, none)) && l.tf.contains d.qual))) &&
  ((decide (l.fdn.map (·.2)).Nodup && l.fdn.all fun p => lowS p.2) &&
  ((l.mts.all fun p => decide (l.at p.2.1 = (l.cnm p.1, some p.2.2)) && !(l.fdn.map (·.2)).contains p.2.2 && lowS p.2.2 && (l.defs.find? fun d => d.f == p.2.1).isSome) &&
  ((l.mks.all fun p => decide (l.at p.2.1 = (p.2.2, some ("__init__" : Str))) && decide (l.cnm p.1 = p.2.2) && notDb p.2.2 && (l.defs.find? fun d => d.f == p.2.1).isSome) &&
  ((l.xr.all fun p => decide (l.xn.getD p.1 "DeckError" = p.2) && notDb p.2) &&
  ((l.gns.all fun p => notDb p.2) && (l.tgs.all fun p => notDb p.2) && ((l.dns.all fun p => notDb p.2.1) && (l.dy.all fun f => (l.defs.find? fun d => d.f == f).isSome))))))))
end Ms

set_option Elab.async false
set_option linter.all false
set_option autoImplicit false
set_option maxRecDepth 100000
set_option maxHeartbeats 2000000
namespace Ms
open PySem PySem.Spec L2 SX
open PyProof.Rows hiding St
variable {l : LD} {w : World} {K : PySem.W.Frag} {mg : Str → Option Value} {base h : Heap}
/-- what stands: the looks at the run's end, the looks at the texts -/
structure Std0 (l : LD) (w : World) (h : Heap) (mg : Str → Option Value) (K : PySem.W.Frag) : Prop where
  s : He.SaysX [] l.fns l.ts (l.tf.map fun x => (x, none)) l.exB w h K
  st : l.stB = true
  x : K.In h
  n : h.Ns mainGlobals mg
  g : ∀ p ∈ l.dns, l.G p.1 = .dct (p.2.2.map fun q => (.str q.1.cps.toList, q.2))
structure Std (l : LD) (w : World) (h base : Heap) (mg : Str → Option Value) (K : PySem.W.Frag) : Prop extends Std0 l w h mg K where
  tb : ∀ x ∈ l.tf, LamX.TabB base mg (He.cT K (x, none)).1 (He.cT K (x, none)).2
theorem find_of {f : Nat} {d : DR} (e : l.defs.find? (fun d => d.f == f) = some d) : d ∈ l.defs ∧ d.f = f ∧ l.at f = d.at_ :=
  ⟨List.mem_of_find?_eq_some e, by have := List.find?_some e; simpa using this, by unfold LD.at; rw [e]⟩
theorem map_inj {α β : Type} {f : α → β} : ∀ {l : List α}, (l.map f).Nodup → ∀ {a b : α}, a ∈ l → b ∈ l → f a = f b → a = b
  | [], _, _, _, h, _, _ => by cases h
  | x :: r, nd, a, b, ha, hb, e => by
    obtain ⟨n1, n2⟩ := List.nodup_cons.mp nd
    rcases List.mem_cons.mp ha with q | q <;> rcases List.mem_cons.mp hb with q2 | q2
    · rw [q, q2]
    · exact absurd (List.mem_map.mpr ⟨b, q2, by rw [← e, q]⟩) n1
    · exact absurd (List.mem_map.mpr ⟨a, q, by rw [e, q2]⟩) n1
    · exact map_inj n2 q q2 e
theorem ndb {x : Str} (h : notDb x = true) : (x == ("__debug__" : Str)) = false := by simpa [notDb] using h
section
variable (s : Std0 l w h mg K)
include s
theorem Std0.ex : l.exB K = true := s.s.more
theorem Std0.glo {d : DR} (hd : d ∈ l.all) (hn : d.at_.2 = none) : mg d.at_.1 = some (.ref (He.ga K d.at_.1)) := by
  have := List.all_eq_true.mp (He.ba (He.ba s.ex).1).1 d hd
  rw [hn] at this
  exact He.glo_ok s.x s.n this
theorem Std0.funD {d : DR} (hd : d ∈ l.all) : ∃ fd, FunD K d.name d.qual (defArgs d.st) (defBody d.st) (defScope d.st) [] [] (He.fAd K d.at_) fd ∧ (∀ (s : Shared) (us : List Value), us.length = d.ps.length → BindsTo s fd ⟨us, []⟩ (d.ps.zip us)) ∧ L2.Binds K fd d.ps [] := by
  obtain ⟨fd, F⟩ := s.s.t.d.defs (d := d.d) (List.mem_map.mpr ⟨d, hd, rfl⟩)
  have st := List.all_eq_true.mp (He.ba s.st).1 d hd
  simp only [Bool.and_eq_true, decide_eq_true_eq] at st
  have b := DR.binds (d := d) st.1.1 st.1.2 F
  exact ⟨fd, F, b.1, b.2⟩
end
section
variable (s : Std l w h base mg K)
include s
theorem Std.rowF {f : Nat} {d : DR} (e : l.defs.find? (fun d => d.f == f) = some d) {fd : FuncData} (F : FunD K d.name d.qual (defArgs d.st) (defBody d.st) (defScope d.st) [] [] (He.fAd K d.at_) fd) :
    ∃ (dV kV doc pm cdv ct oc : Value) (an od : Option Addr) (osl : Array (Option Value)) (b : Ss), fd = PySem.W.fnOf d.name d.qual (defArgs d.st) (defBody d.st) (defScope d.st) dV kV doc pm an cdv ct ∧
      (l.g w K mg base).K.lookup ((l.g w K mg base).fa f) = some ⟨oc, od, .func (PySem.W.fnOf d.name d.qual (defArgs d.st) (defBody d.st) (defScope d.st) dV kV doc pm an cdv ct), osl⟩ ∧ PySem.W.codeIn (l.g w K mg base).K cdv d.qual = true ∧ FnScope d.N d.ps (defScope d.st) ∧ (l.g w K mg base).T f = some ⟨d.N.length, d.ps.length, b⟩ ∧ chkSs l.cfg d.lam d.N (defScope d.st) b (defBody d.st) = true ∧
      (d.lam = true → ∃ cc PP, cdv = .ref cc ∧ LamX.TabB (l.g w K mg base).base (l.g w K mg base).mg cc PP ∧ (PP, (d.qual ++ ".<locals>.") ++ "<lambda>") ∈ (l.g w K mg base).tabs ∧ ∀ p ∈ (l.g w K mg base).tabs, p.1 = PP → p.2 = (d.qual ++ ".<locals>.") ++ "<lambda>") ∧
      PySem.W.keepIn (l.g w K mg base).K (.ref ((l.g w K mg base).fa f)) = true := by
  obtain ⟨hd, ef, ea⟩ := find_of e
  have st := List.all_eq_true.mp (He.ba (He.ba s.st).2).1 d hd
  simp only [Bool.and_eq_true] at st
  obtain ⟨st, hl⟩ := st
  unfold DR.chk at st
  simp only [Bool.and_eq_true, decide_eq_true_eq] at st
  obtain ⟨⟨⟨s1, s2⟩, s3⟩, s4⟩ := st
  have kp := F.kp
  obtain ⟨oc, od, dV, kV, doc, pm, an, cdv, ct, osl, rfl, lk, hcd, _, _⟩ := F.ex
  cases hT : l.T d.f with
  | none => rw [hT] at s4; cases s4
  | some Fd =>
    obtain ⟨n, p, b⟩ := Fd
    rw [hT] at s4
    simp only [Bool.and_eq_true, decide_eq_true_eq] at s4
    obtain ⟨⟨rfl, rfl⟩, hc⟩ := s4
    have efa : (l.g w K mg base).fa f = He.fAd K d.at_ := by
      show He.fAd K (l.at f) = _
      rw [ea]
    refine ⟨dV, kV, doc, pm, cdv, ct, oc, an, od, osl, b, rfl, by rw [efa]; exact lk, hcd, fnScope_by s3, by rw [← ef]; exact hT, hc, fun hlam => ?_, by rw [efa]; exact kp⟩
    rw [hlam] at hl
    simp only [Bool.not_true, Bool.false_or, Bool.and_eq_true, decide_eq_true_eq] at hl
    obtain ⟨h1, h2⟩ := hl
    have hm : d.qual ∈ l.tf := by simpa using h2
    obtain ⟨c, rfl⟩ := He.codeIn_ref hcd
    have ec := He.codeOf_eq (K := K) (p := d.at_) lk rfl
    rw [h1] at ec
    refine ⟨c, (He.cT K (d.qual, none)).2, rfl, ?_, List.mem_map.mpr ⟨d.qual, hm, rfl⟩, fun p hp e => ?_⟩
    · have := s.tb _ hm
      rw [show (He.cT K (d.qual, none)).1 = c from ec] at this
      exact this
    · obtain ⟨x, hx, rfl⟩ := List.mem_map.mp hp
      have nd : (l.tf.map fun x => (He.cT K (x, none)).2).Nodup := by
        have := (He.ba (He.ba (He.ba (He.ba (He.ba (He.ba (He.ba (He.ba (He.ba s.ex).1).2).2).2).2).2).2).2).2
        exact of_decide_eq_true this
      have e : (He.cT K (x, none)).2 = (He.cT K (d.qual, none)).2 := e
      have : x = d.qual := map_inj nd hx hm e
      rw [this]
theorem Std.row {f : Nat} {d : DR} (e : l.defs.find? (fun d => d.f == f) = some d) : DefRow (l.g w K mg base) l.cfg f := by
  obtain ⟨hd, ef, ea⟩ := find_of e
  obtain ⟨fd, F, _, hb⟩ := s.funD (List.mem_append_left _ hd)
  obtain ⟨dV, kV, doc, pm, cdv, ct, oc, an, od, osl, b, rfl, h1, h2, h3, h4, h5, h6, h7⟩ := s.rowF e F
  exact ⟨d.name, d.qual, defArgs d.st, defBody d.st, defScope d.st, dV, kV, doc, pm, cdv, ct, oc, an, od, osl, d.N, d.ps, b, d.lam, h1, h2, h3, h4, h5, h6, h7, hb⟩
/-- a def's promise, its function object known -/
theorem Std.fnOk (C : CfgSt (l.g w K mg base) l.cfg) {f : Nat} {d : DR} (e : l.defs.find? (fun d => d.f == f) = some d) {fd : FuncData} (F : FunD K d.name d.qual (defArgs d.st) (defBody d.st) (defScope d.st) [] [] (He.fAd K d.at_) fd) (k : Nat) :
    FnOk l.prog w K mg base (L2N.CX l.prog w) (4 * (k + 1)) (He.fAd K d.at_) fd d.ps (specOf (l.g w K mg base) (k + 1) f) := by
  obtain ⟨hd, ef, ea⟩ := find_of e
  obtain ⟨dV, kV, doc, pm, cdv, ct, oc, an, od, osl, b, rfl, h1, h2, h3, h4, h5, h6, h7⟩ := s.rowF e F
  have := fn_succ (cfg_all C k) h1 h2 h3 h6 h4 h5
  have efa : (l.g w K mg base).fa f = He.fAd K d.at_ := by
    show He.fAd K (l.at f) = _
    rw [ea]
  rw [efa] at this
  exact this
theorem Std.rows {f : Nat} (e : (l.defs.find? (fun d => d.f == f)).isSome = true) : DefRow (l.g w K mg base) l.cfg f := by
  obtain ⟨d, hd⟩ := Option.isSome_iff_exists.mp e
  exact s.row hd
omit s in
theorem fnm_in {f : Nat} {x : Str} (e : l.fdn.lookup f = some x) : l.fnm f = x := by unfold LD.fnm; rw [e]
omit s in
theorem lookup_mem {α : Type} {f : Nat} {x : α} : ∀ {l : List (Nat × α)}, l.lookup f = some x → (f, x) ∈ l
  | [], h => by cases h
  | (b, u) :: r, h => by
    rw [List.lookup_cons] at h
    split at h
    · rename_i q
      rw [eq_of_beq q, Option.some.inj h]
      exact List.mem_cons_self
    · exact List.mem_cons_of_mem _ (lookup_mem h)
omit s in
theorem high (f : Nat) : lowS ⟨#[2000000 + f]⟩ = false := by
  simp [lowS]
theorem Std.low {f : Nat} {x : Str} (e : l.fdn.lookup f = some x) : lowS x = true ∧ x ∈ l.fdn.map (·.2) := by
  have := (He.ba (He.ba (He.ba (He.ba s.st).2).2).1).2
  exact ⟨List.all_eq_true.mp this _ (lookup_mem e), List.mem_map.mpr ⟨_, lookup_mem e, rfl⟩⟩
theorem Std.inj : ∀ a b, l.fnm a = l.fnm b → a = b := by
  intro a b e
  have nd : (l.fdn.map (·.2)).Nodup := of_decide_eq_true (He.ba (He.ba (He.ba (He.ba s.st).2).2).1).1
  unfold LD.fnm at e
  cases ha : l.fdn.lookup a with
  | some x =>
    cases hb : l.fdn.lookup b with
    | some y =>
      rw [ha, hb] at e
      have e : x = y := e
      subst e
      exact (Prod.mk.inj (map_inj nd (lookup_mem ha) (lookup_mem hb) rfl)).1
    | none =>
      rw [ha, hb] at e
      have e : x = ⟨#[2000000 + b]⟩ := e
      have := (s.low ha).1
      rw [e, high] at this
      cases this
  | none =>
    cases hb : l.fdn.lookup b with
    | some y =>
      rw [ha, hb] at e
      have e : (⟨#[2000000 + a]⟩ : Str) = y := e
      have := (s.low hb).1
      rw [← e, high] at this
      cases this
    | none =>
      rw [ha, hb] at e
      have e : (⟨#[2000000 + a]⟩ : Str) = ⟨#[2000000 + b]⟩ := e
      injection e with e
      have := congrArg (fun z : Array Nat => z.toList) e
      simp at this
      omega
omit s in
theorem cnm_mem (l : LD) (c : Nat) : l.cnm c ∈ l.c0 :: l.cn := by
  unfold LD.cnm
  by_cases h : c < l.cn.length
  · rw [List.getD_eq_getElem?_getD, List.getElem?_eq_getElem h]
    exact List.mem_cons_of_mem _ (List.getElem_mem h)
  · rw [List.getD_eq_getElem?_getD, List.getElem?_eq_none (by omega)]
    exact List.mem_cons_self
omit s in
theorem strsEq_ok : ∀ {ys : List (List Nat)} {us : List Value}, strsEq ys us = true → Vals (ys.map strV) us
  | [], us, h => by
    simp only [strsEq, List.isEmpty_iff] at h
    subst h
    exact .nil
  | y :: ys, us, h => by
    unfold strsEq at h
    split at h
    · rename_i z t us
      rw [Bool.and_eq_true] at h
      have e : z.cps.toList = y := of_decide_eq_true h.1
      subst e
      have : strV z.cps.toList = V.str z := by unfold strV; cases z; simp
      rw [List.map_cons, this]
      exact .cons ⟨t, rfl⟩ (strsEq_ok h.2)
    · cases h
omit s in
theorem strsOf_eq : ∀ {ds : List D} {ys : List (List Nat)}, strsOf ds = some ys → ds = ys.map D.str
  | [], ys, h => by simp only [strsOf, Option.some.injEq] at h; subst h; rfl
  | d :: ds, ys, h => by
    cases d with
    | str x =>
      simp only [strsOf] at h
      cases hr : strsOf ds with
      | none => rw [hr] at h; cases h
      | some zs =>
        rw [hr] at h
        simp only [Option.map_some, Option.some.injEq] at h
        subst h
        rw [strsOf_eq hr]; rfl
    | _ => simp [strsOf] at h
omit s in
theorem tupSB_ok {x : Str} {d : D} (X : K.In h) (G : h.Ns mainGlobals mg) (c : tupSB K x d = true) : ∃ (a : Addr) (o : Obj) (its : Array Value) (n : Nat) (ys : List (List Nat)), mg x = some (.ref a) ∧ K.lookup a = some o ∧ o.cls = .type "tuple" ∧ o.dict = none ∧ o.data = .seq its n ∧ its.size ≤ sizeLine ∧ Vals (ys.map strV) its.toList ∧ d = .tup (ys.map D.str) := by
  unfold tupSB at c
  split at c
  · rename_i ds
    split at c
    · rename_i ys hys
      split at c
      · rename_i a hn
        split at c
        · rename_i cc its n sl lk
          simp only [Bool.and_eq_true, decide_eq_true_eq] at c
          obtain ⟨⟨rfl, c2⟩, c3⟩ := c
          exact ⟨a, _, its, n, ys, PySem.W.mg_of X G hn, lk, rfl, rfl, rfl, c2, strsEq_ok c3, by rw [strsOf_eq hys]⟩
        · cases c
      · cases c
    · cases c
  · cases c
/-- the module bears the checker's word -/
theorem Std.cfg (hfw : ∀ x, l.cfg.fw = some x → ∃ gg, FwOk (l.g w K mg base) x gg) (hwd : ∀ x, l.cfg.wd = some x → ∃ f, WordOk (l.g w K mg base) f x) : CfgSt (l.g w K mg base) l.cfg := by
  have ee := He.ba s.ex
  have e0 := He.ba ee.1
  have e1 := He.ba e0.2
  have e2 := He.ba e1.2
  have e3 := He.ba e2.2
  have e4 := He.ba e3.2
  have e7 := He.ba e4.2
  have e8 := He.ba e7.2
  have e9 := He.ba e8.2
  have e5 := He.ba ee.2
  have e6 := He.ba e5.2
  have t0 := He.ba s.st
  have t1 := He.ba t0.2
  have t2 := He.ba t1.2
  have t3 := He.ba t2.2
  have t4 := He.ba t3.2
  have t5 := He.ba t4.2
  have t6 := He.ba t5.2
  have t7 := He.ba t6.2
  refine ⟨fun f x e => ?_, fun f e => ?_, fun cc f x e => ?_, fun cc x e => ?_, fun j x e => ?_, fun f x e => ?_, fun cc f x e => ?_, fun x e => ?_, fun x cl e => ?_, hfw, hwd, fun j x e => ?_⟩
  · dsimp only [LD.cfg] at e
    split at e
    · rename_i d hf
      split at e
      · rename_i hn
        obtain ⟨hd, ef, ea⟩ := find_of hf
        injection e with e
        subst e
        have hn : d.at_.2 = none := by simpa using hn
        refine ⟨?_, ?_, s.row hf⟩
        · show mg d.at_.1 = some (.ref (He.fAd K (l.at f)))
          rw [ea]
          unfold He.fAd
          rw [hn]
          exact s.glo (List.mem_append_left _ hd) hn
        · have := List.all_eq_true.mp t0.1 d (List.mem_append_left _ hd)
          simp only [Bool.and_eq_true] at this
          exact ndb this.2
      · cases e
    · cases e
  · have e : f ∈ l.dy := by simpa using (show l.dy.contains f = true from e)
    exact s.rows (List.all_eq_true.mp t7.2 f e)
  · dsimp only [LD.cfg] at e
    cases hf : l.mks.find? fun p => p.1 == cc && p.2.1 == f with
    | none => rw [hf] at e; cases e
    | some p =>
      rw [hf] at e
      injection e with e
      subst e
      have hm := List.mem_of_find?_eq_some hf
      have hc := List.find?_some hf
      simp only [Bool.and_eq_true, beq_iff_eq] at hc
      obtain ⟨rfl, rfl⟩ := hc
      have k1 := He.ba (List.all_eq_true.mp e4.1 p hm)
      have k2 := List.all_eq_true.mp t4.1 p hm
      simp only [Bool.and_eq_true, decide_eq_true_eq] at k2
      obtain ⟨⟨⟨k2, k3⟩, k4⟩, k5⟩ := k2
      have eca : (l.g w K mg base).ca p.1 = He.ga K p.2.2 := by show He.ga K (l.cnm p.1) = _; rw [k3]
      have efa : (l.g w K mg base).fa p.2.1 = He.ma K (He.ga K p.2.2) "__init__" := by show He.fAd K (l.at p.2.1) = _; rw [k2]; rfl
      refine ⟨?_, ndb k4, ?_, s.rows k5⟩
      · rw [eca]; exact He.glo_ok s.x s.n k1.1
      · rw [eca, efa]; exact He.mkr_ok k1.2
  · have hm := lookup_mem (show l.xr.lookup cc = some x from e)
    have k1 := He.ba (List.all_eq_true.mp e5.1 _ hm)
    have k2 := List.all_eq_true.mp t5.1 _ hm
    simp only [Bool.and_eq_true, decide_eq_true_eq] at k2
    have exa : (l.g w K mg base).xa cc = He.ga K x := by show He.ga K (l.xn.getD cc "DeckError") = _; rw [k2.1]
    have k3 := He.exc_ok k1.2
    refine ⟨?_, ndb k2.2, ?_⟩
    · rw [exa]; exact He.glo_ok s.x s.n k1.1
    · refine ⟨?_, ?_, ?_, ?_⟩
      · rw [exa]; exact k3.1
      · rw [exa]; exact k3.2.1
      · rw [exa]; exact k3.2.2.1
      · rw [exa]; exact k3.2.2.2
  · dsimp only [LD.cfg] at e
    cases hg : l.gns.lookup j with
    | some y =>
      rw [hg] at e
      injection e with e
      subst e
      have hm := lookup_mem hg
      have k1 := List.all_eq_true.mp e7.1 _ hm
      refine ⟨ndb (List.all_eq_true.mp (He.ba t6.1).1 _ hm), ?_⟩
      dsimp only at k1
      cases c : PySem.W.nsIn K mainGlobals y with
      | none => rw [c] at k1; cases k1
      | some r =>
        cases r with
        | none => rw [c] at k1; cases k1
        | some u =>
          rw [c] at k1
          exact ⟨u, valOf u, PySem.W.mg_of s.x s.n c, (denB_ok (w := w) (mg := mg) (base := base) (Z := fun _ => none) (S := []) k1).1, fun Z S => (denB_ok (w := w) (mg := mg) (base := base) (Z := Z) (S := S) k1).2⟩
    | none =>
      rw [hg] at e
      cases hd : l.dns.lookup j with
      | none => rw [hd] at e; cases e
      | some p =>
        rw [hd] at e
        injection e with e
        subst e
        have hm := lookup_mem hd
        have k1 := He.ba (List.all_eq_true.mp e8.1 _ hm)
        refine ⟨ndb (List.all_eq_true.mp t7.1 _ hm), .ref (He.ga K p.1), .ref (He.ga K p.1), He.glo_ok s.x s.n k1.1, rfl, fun Z S => ?_⟩
        show Den _ Z S _ (l.G j)
        rw [s.g _ hm]
        obtain ⟨i, hi, ei⟩ := List.getElem_of_mem hm
        have hts : l.ts[i]? = some ((fun K => He.ga K p.1, p.2.map (·.1)) : He.Tab) := by
          unfold LD.ts
          rw [List.getElem?_map, List.getElem?_eq_getElem hi, ei]
          rfl
        have hdw : He.dicW K (He.ga K p.1) = some (He.keysIn w.params (p.2.map (·.1))) := by
          have e : l.ts.map (fun t => He.dicW K (t.1 K)) = l.ts.map fun t => some (He.keysIn w.params t.2) := congrArg (fun z : He.AlT => z.2) s.s.t
          have e2 : (l.ts.map fun t => He.dicW K (t.1 K))[i]? = (l.ts.map fun t => some (He.keysIn w.params t.2))[i]? := by rw [e]
          rw [List.getElem?_map, List.getElem?_map, hts] at e2
          exact Option.some.inj e2
        exact dict_ok (s.s.t.tab i hts) hdw k1.2 Z S
  · have e : l.fdn.lookup f = some x := e
    refine ⟨(fnm_in e).symm, fun cc => ⟨s.inj, ?_, ?_⟩⟩
    all_goals
      have hne : l.fdn.isEmpty = false := by
        cases q : l.fdn with
        | nil => rw [q] at e; cases e
        | cons a r => rfl
      have k := e2.1
      rw [hne, Bool.false_or] at k
      have k := He.ba (List.all_eq_true.mp k _ (cnm_mem l cc))
    · exact He.cls_ok k.1
    · show NoAttr K (He.ga K (l.cnm cc)) (l.fnm f)
      rw [fnm_in e]
      exact He.noat_ok (List.all_eq_true.mp k.2 _ (lookup_mem e))
  · dsimp only [LD.cfg] at e
    cases hf : l.mts.find? fun p => p.1 == cc && p.2.1 == f with
    | none => rw [hf] at e; cases e
    | some p =>
      rw [hf] at e
      injection e with e
      subst e
      have hm := List.mem_of_find?_eq_some hf
      have hc := List.find?_some hf
      simp only [Bool.and_eq_true, beq_iff_eq] at hc
      obtain ⟨rfl, rfl⟩ := hc
      have k1 := He.ba (List.all_eq_true.mp e3.1 p hm)
      have k2 := List.all_eq_true.mp t3.1 p hm
      simp only [Bool.and_eq_true, decide_eq_true_eq] at k2
      obtain ⟨⟨⟨k2, k3⟩, k4⟩, k5⟩ := k2
      have efa : (l.g w K mg base).fa p.2.1 = He.ma K (He.ga K (l.cnm p.1)) p.2.2 := by show He.fAd K (l.at p.2.1) = _; rw [k2]; rfl
      refine ⟨⟨He.cls_ok k1.1, ?_, fun a q => ?_⟩, s.rows k5⟩
      · rw [efa]; exact He.meth_ok k1.2
      · have q : l.fnm a = p.2.2 := q
        unfold LD.fnm at q
        cases ha : l.fdn.lookup a with
        | some x =>
          rw [ha] at q
          have q : x = p.2.2 := q
          subst q
          have := (s.low ha).2
          simp only [Bool.not_eq_true', List.contains_eq_mem, decide_eq_false_iff_not] at k3
          exact k3 this
        | none =>
          rw [ha] at q
          have q : (⟨#[2000000 + a]⟩ : Str) = p.2.2 := q
          rw [← q, high] at k4
          cases k4
  · have e : x ∈ l.bi := by simpa using (show l.bi.contains x = true from e)
    exact He.free_ok s.x s.n (List.all_eq_true.mp e1.1 x e)
  · dsimp only [LD.cfg] at e
    split at e
    · rename_i hx
      subst hx
      injection e with e
      subst e
      refine ⟨by decide, _, He.glo_ok s.x s.n (He.ba e6.1).1, fun cc hcc => ?_⟩
      have := List.all_eq_true.mp (He.ba e6.1).2 cc (List.mem_range.mpr hcc)
      have := He.exm_ok this
      show PySem.W.exmOne K (.ref (He.ga K (l.xn.getD cc "DeckError"))) _ = _
      rw [this]
      simp [hcc]
    · cases e
  · have hm := lookup_mem (show l.tgs.lookup j = some x from e)
    refine ⟨ndb (List.all_eq_true.mp (He.ba t6.1).2 _ hm), ?_⟩
    have k := List.all_eq_true.mp e9.1 _ hm
    exact tupSB_ok s.x s.n k
end
end Ms

set_option Elab.async false
set_option linter.all false
set_option autoImplicit false
set_option maxRecDepth 100000
set_option maxHeartbeats 2000000
namespace Ms
open PySem PySem.Spec L2 SX HotX L2H
open PyProof.Rows hiding St
variable {l : LD} {w : World} {K : PySem.W.Frag} {mg : Str → Option Value} {base h : Heap}
/-! ### first_where -/
def fwB (l : LD) (d : DR) (tn bn kn : Str) : Bool :=
  decide (d.at_ = (d.name, none)) && (decide (d.qual = d.name) && (decide (d.ps = [tn, bn]) && (fnScopeB [tn, bn, kn] [tn, bn] (defScope d.st) && ((decide ((defScope d.st).names.lookup tn = some .local) && (decide ((defScope d.st).names.lookup bn = some .local) && (decide ((defScope d.st).names.lookup kn = some .local) &&
    (decide ((defScope d.st).names.lookup ("range" : Str) = some .globalImplicit) && decide ((defScope d.st).names.lookup ("len" : Str) = some .globalImplicit))))) && ((l.bi.contains "range" && l.bi.contains "len") && [tn, bn, kn].all (fun n => notDb n && !(n == ("__classdict__" : Str))))))))
theorem Std.fw (s : Std l w h base mg K) {d : DR} (hd : l.fwd = some d) {tn bn kn : Str} {p1 p2 p3 p4 p5 p6 p7 p8 p9 p10 p11 p12 p13 p14 p15 : Pos} {j : Nat} (hb : defBody d.st = fwBody tn bn kn p1 p2 p3 p4 p5 p6 p7 p8 p9 p10 p11 p12 p13 p14 p15 j) (hB : fwB l d tn bn kn = true) :
    ∀ x, l.cfg.fw = some x → ∃ gg, FwOk (l.g w K mg base) x gg := by
  intro x hx
  simp only [LD.cfg, hd, Option.map_some, Option.some.injEq] at hx
  subst hx
  have b0 := He.ba hB
  have b1 := He.ba b0.2
  have b2 := He.ba b1.2
  have b3 := He.ba b2.2
  have b4 := He.ba b3.2
  have b5 := He.ba b4.2
  have c0 := He.ba b4.1
  have c1 := He.ba c0.2
  have c2 := He.ba c1.2
  have c3 := He.ba c2.2
  have hm : d ∈ l.all := by
    unfold LD.all
    rw [hd]
    simp
  obtain ⟨fd, F, _, hbd⟩ := s.funD hm
  have ha : d.at_ = (d.name, none) := of_decide_eq_true b0.1
  have ef : He.fAd K d.at_ = He.ga K d.name := by rw [ha]; rfl
  have st := List.all_eq_true.mp (He.ba s.st).1 d hm
  simp only [Bool.and_eq_true, decide_eq_true_eq] at st
  have kp := F.kp
  obtain ⟨oc, od, dV, kV, doc, pm, an, cdv, ct, osl, rfl, lk, hcd, _, _⟩ := F.ex
  have hq : d.qual = d.name := of_decide_eq_true b1.1
  have hps : d.ps = [tn, bn] := of_decide_eq_true b2.1
  have bi := List.all_eq_true.mp (He.ba (He.ba (He.ba s.ex).1).2).1
  rw [ef] at lk kp
  rw [hq, hb] at lk hbd
  rw [hps] at hbd
  rw [hq] at hcd
  have e1 : d.at_.1 = d.name := by rw [ha]
  rw [e1]
  refine ⟨He.ga K d.name, ?_, kp, by rw [← e1]; exact ndb st.2, defArgs d.st, defScope d.st, dV, kV, doc, pm, cdv, ct, oc, an, od, osl, tn, bn, kn, p1, p2, p3, p4, p5, p6, p7, p8, p9, p10, p11, p12, p13, p14, p15, j, lk, hcd, hbd, fnScope_by b3.1, ⟨of_decide_eq_true c0.1, of_decide_eq_true c1.1, of_decide_eq_true c2.1, of_decide_eq_true c3.1, of_decide_eq_true c3.2⟩, ?_, ?_, fun n hn => ?_⟩
  · have := s.glo hm (by rw [ha])
    rw [e1] at this
    exact this
  · exact He.free_ok s.x s.n (bi _ (by simpa using (He.ba b5.1).1))
  · exact He.free_ok s.x s.n (bi _ (by simpa using (He.ba b5.1).2))
  · have := List.all_eq_true.mp b5.2 n hn
    rw [Bool.and_eq_true] at this
    exact ⟨ndb this.1, by simpa using this.2⟩
/-! ### the end -/
theorem walk_ofX {l : PySem.W.OpenLaw} {n k : Nat} {q : Program} {loose : List Str} {XP : (Str → Option Value) → Heap → Prop} {YP : World → Heap → Prop} {d : DefRec} {CX : World → CXT} {x : Str}
    (hn : l.most = some n) (hn2 : n ≤ sizeLine) (hdf : d.params.defaults = []) (hr : Room k callerA)
    (F : ∀ (w : World) (mg : Str → Option Value) (fa : Addr) (h : Heap), YP w h → h.Ns mainGlobals mg → mg d.name = some (.ref fa) → ∃ K : PySem.W.Frag, K.In h ∧ LamX.LawAtS l w K (CX w) k n x mg fa h)
    (hCX : ∀ (w : World) (H : Hp) (s : Shared) (e : Value) (s' : Shared), CX w [] H s (fun _ _ _ => False) e s' → False) :
    PySem.W.WalkO q loose XP YP l.row.toRowW d [] (fun f vs => PySem.call f vs) := by
  refine Att.attach_callB hn hdf fun w s₀ s₁ mg mb fa o pm cd doc a vs ns G Y ho hd hcd hmg hobj hints hlen hbits hg => ?_
  obtain ⟨K, KX, fd, cs, sp, hT, nT, C, hb, hsp, hF⟩ := F w mg fa _ Y G.T.g hmg
  exact LamX.law_callTs KX G.T.g G.T.b G.T.builtins G.T.nolimit hg hT nT C G.T.bmain hobj hints (Nat.le_trans hlen hn2) hr hF hb (fun H hH hS => hsp H a ns hlen hbits hH hS) fun H e s' => hCX w H s₁ e s'
/-- the law's own state: the script frozen, nothing stored -/
theorem start_sto {H : Hp} {a : Addr} {ns : List Int} (hT : ∀ x ∈ l.tf, H (He.cT K (x, none)).2 = some (.tbl #[])) (hS : SqL K H a (ns.map V.int)) :
    ∃ Z, StoR (l.g w K mg base) Z [] H [] ∧ DenL (l.g w K mg base) Z [] [.ref a] [.frz ns] := by
  have key : ∀ b o, (if b = a then (match H a with
      | some (.tbl _) => none
      | x => x) else none) = some o → H b = some o ∧ notTbl o := by
    intro b o e
    split at e
    · rename_i q
      subst q
      split at e
      · cases e
      · rename_i x hx
        refine ⟨e, fun ps c => ?_⟩
        subst c
        exact hx ps e
    · cases e
  refine ⟨fun b => if b = a then (match H a with
      | some (.tbl _) => none
      | x => x) else none, ⟨fun b o e => (key b o e).1, rfl, fun n c b e => (by simp at e), List.nodup_nil, (fun b hb => by cases hb), ?_, fun b o e => (key b o e).2⟩, .cons (.frz ?_) .nil⟩
  · intro p hp
    obtain ⟨x, hx, rfl⟩ := List.mem_map.mp (show p ∈ l.tabs K from hp)
    exact LamX.TabS.nil (hT x hx)
  · rcases hS with (e | ⟨o, e⟩) | e
    · exact .inl (.inl (by simp [e]))
    · exact .inl (.inr ⟨o, by simp [e]⟩)
    · exact .inr e
theorem FnOk.weak {P : Program} {w : World} {K : PySem.W.Frag} {mg : Str → Option Value} {base : Heap} {CX : CXT} {k : Nat} {f : Addr} {fd : FuncData} {ps : List Str} {sp sp' : Sp} (F : FnOk P w K mg base CX k f fd ps sp) (h : ∀ vs H Q E, sp' vs H Q E → sp vs H Q E) : FnOk P w K mg base CX k f fd ps sp' :=
  ⟨fun vs H Q E q => F.len vs H Q E (h _ _ _ _ q), fun A outer s H args us vs Q E hr e0 hb r q => F.run A outer s H args us vs Q E hr e0 hb r (h _ _ _ _ q)⟩
/-- the law's promise at the head's heap -/
theorem law_at {row : PySem.W.OpenLaw} {k n lawF : Nat} {x : Str} {fa : Addr} (hp : row.prog = l.prog) (ms : ∀ base, K.In base → base.Ns mainGlobals mg → (∀ y ∈ l.tf, LamX.TabB base mg (He.cT K (y, none)).1 (He.cT K (y, none)).2) → Std l w h base mg K ∧ (∀ z, l.cfg.fw = some z → ∃ gg, FwOk (l.g w K mg base) z gg) ∧ (∀ z, l.cfg.wd = some z → ∃ f, WordOk (l.g w K mg base) f z))
    (s : Std0 l w h mg K) {d : DR} (hf : l.defs.find? (fun d => d.f == lawF) = some d) (hat : d.at_ = (("law" : Str), none)) (hps : d.ps = [x]) (hfa : mg ("law" : Str) = some (.ref fa))
    (math : ∀ ns : List Int, ns.length ≤ n → (∀ z ∈ ns, Builtin.Int.intBits z ≤ 1048576) → ∃ s', callK l.G l.T (k + 1) lawF [.frz ns] [] = .ok (.bl true) s') :
    LamX.LawAtS row w K (L2N.CX row.prog w) (4 * (k + 1)) n x mg fa h := by
  obtain ⟨hd, ef, ea⟩ := find_of hf
  have hm : d ∈ l.all := List.mem_append_left _ hd
  obtain ⟨fd0, F0, hb0, _⟩ := s.funD hm
  have e1 : He.fAd K d.at_ = fa := by
    have := s.glo hm (by rw [hat])
    rw [hat] at this
    have := hfa.symm.trans this
    injection this with this
    injection this with this
    rw [hat, this]
    rfl
  refine ⟨fd0, l.tf.map fun y => He.cT K (y, none), fun vs H Q E => ∀ base, specOf (l.g w K mg base) (k + 1) lawF vs H Q E, ?_, ?_, ?_, ?_, ?_, ?_⟩
  · intro p hp
    obtain ⟨y, hy, rfl⟩ := List.mem_map.mp hp
    exact s.s.empty _ (List.mem_map.mpr ⟨y, hy, rfl⟩)
  · intro p hp
    obtain ⟨y, hy, rfl⟩ := List.mem_map.mp hp
    exact s.s.out _ (List.mem_map.mpr ⟨y, hy, rfl⟩)
  · intro p hp
    obtain ⟨y, hy, rfl⟩ := List.mem_map.mp hp
    exact PySem.W.codeHd_of_K s.x (s.s.hd _ (List.mem_map.mpr ⟨y, hy, rfl⟩))
  · intro s' u
    have := hb0 s' [u] (by rw [hps]; rfl)
    rw [hps] at this
    exact this
  · intro H a ns hl hbits hT hS base
    obtain ⟨Z, q, dn⟩ := start_sto (l := l) (w := w) (mg := mg) (base := base) (fun y hy => hT _ (List.mem_map.mpr ⟨y, hy, rfl⟩)) hS
    obtain ⟨s', e⟩ := math ns hl hbits
    refine ⟨Z, [], [], [.frz ns], q, dn, ?_⟩
    show (match callK l.G l.T (k + 1) lawF [.frz ns] [] with
      | .ok d s' => _
      | .ex c r s' => _
      | .bad => False)
    rw [e]
    intro v Z' S' H' q' x' dn'
    cases dn'
    rfl
  · intro base KX hns TB
    obtain ⟨sb, f1, f2⟩ := ms base KX hns fun y hy => TB _ (List.mem_map.mpr ⟨y, hy, rfl⟩)
    have C := sb.cfg f1 f2
    have F := sb.fnOk C hf F0 k
    rw [e1, hps] at F
    rw [hp]
    exact FnOk.weak F fun vs H Q E q => q base
end Ms

set_option maxRecDepth 100000
set_option maxHeartbeats 4000000
namespace Ms.L61
open PySem PySem.Spec PyProof.Rows L2 Ms
theorem st : ld.stB = true := by decide +kernel
theorem gd : ∀ p ∈ ld.dns, ld.G p.1 = .dct (p.2.2.map fun q => (.str q.1.cps.toList, q.2)) := by
  intro p hp
  simp only [ld, dns, List.mem_cons, List.not_mem_nil, or_false] at hp
  rcases hp with rfl | rfl | rfl | rfl | rfl <;> rfl
end Ms.L61

set_option Elab.async false
set_option linter.all false
set_option autoImplicit false
set_option maxRecDepth 100000
set_option maxHeartbeats 4000000
namespace Ms.L61
open PySem PySem.Spec L2 HotX L2H SX Ms
open PyProof.Rows hiding St
def wdr : DR := (ld.wdd).getD d0
def wN : List Str := ["caught", "told", "words", "found", "word", "so"]
def wdN : List Str := (["NoDeck", "NoDeed", "NoLink", "NoMaster", "NoName", "NoNumber", "NoPlace", "NoPress", "NoRoom", "NoRow", "NoSetting", "NoShow"] : List Str) ++ (["NoSlide", "NoSteps", "NoText", "NoTime", "NoTrait", "NoWord", "NoWorth", "Ring", "Taken", "TooMany", "Used"] : List Str)
def S1v : List Str := ["deck", "deed", "link", "master", "name", "number", "place", "press", "room", "row", "setting", "show"]
def S2v : List Str := ["slide", "steps", "text", "time", "trait", "word", "worth", "ring", "taken", "many", "used"]
theorem sp1 : Txt.split "deck deed link master name number place press room row setting show" " " = S1v := by decide +kernel
theorem sp2 : Txt.split "slide steps text time trait word worth ring taken many used" " " = S2v := by decide +kernel
/-- what the module must bear for the word of the class at D -/
structure WordF (K : PySem.W.Frag) (mg : Str → Option Value) (D : Addr) (bs : Nat → Bool) : Prop where
  cc : ExcC K D
  ve : PySem.W.kitOne K (.ref D) (.type "ValueError") = some true
  n : ∀ i, i < 23 → mg (wdN.getD i "") = some (.ref (He.ga K (wdN.getD i ""))) ∧ PySem.W.kitOne K (.ref D) (.ref (He.ga K (wdN.getD i ""))) = some (bs i)
theorem word_run {w : World} {K : PySem.W.Frag} {mg : Str → Option Value} {base : Heap} {D f : Addr} {bs : Nat → Bool} {v : Str} (F : WordF K mg D bs) (mi : mg "isinstance" = none) (mz : mg "zip" = none) (ml : mg "len" = none) (mv : mg "ValueError" = none)
    (hsel : sel (S1v ++ S2v) ((List.range 23).map bs) = [v])
    (cdv : Value) (A : Around) (outer : List PySem.Env) (s : Shared) (H : Hp) (Q : VK) (E : XK) (p : Addr × Obj) (hot : Hot1 A p) (hd : OfCls p (.ref D)) (hq : ∀ H', HLe H H' → Q (.str v) H') :
    ∃ t, PSs (cxH (L2N.CX pr w) pr w K mg base wN "_law_word" (defScope wdr.st) f cdv A outer s H E p) (defBody wdr.st) t ∧ t { nx := fun _ H' => Q .non H', rt := Q } (L2.start wN [.ref p.1]) H := by
  have G : HotK (cxH (L2N.CX pr w) pr w K mg base wN "_law_word" (defScope wdr.st) f cdv A outer s H E p) p D "caught" :=
    ⟨hot, List.mem_cons_self, F.cc, hd, rfl, mi, rfl, .inl rfl, rfl, rfl⟩
  have nd : (cxH (L2N.CX pr w) pr w K mg base wN "_law_word" (defScope wdr.st) f cdv A outer s H E p).N.Nodup := by show wN.Nodup; decide
  have c : ∀ (i : Nat) (x : Str) (p1 p2 p3 pos : Pos), i < 23 → wdN.getD i "" = x → Gl (cxH (L2N.CX pr w) pr w K mg base wN "_law_word" (defScope wdr.st) f cdv A outer s H E p) x → (x == ("__debug__" : Str)) = false → PE (cxH (L2N.CX pr w) pr w K mg base wN "_law_word" (defScope wdr.st) f cdv A outer s H E p) (.Call (.Name "isinstance" p1) [.Name "caught" p2, .Name x p3] [] pos) (fun σ H Q => holds p σ ∧ Q (.bl (bs i)) H) := by
    rintro i x p1 p2 p3 pos hi rfl hg hdb
    exact pe_isC G hg (F.n i hi).1 (F.n i hi).2 hdb
  have vt : ∀ pos, PE (cxH (L2N.CX pr w) pr w K mg base wN "_law_word" (defScope wdr.st) f cdv A outer s H E p) (.Name "told" pos) (tVar 1) := fun pos => pe_var rfl (.inl rfl) rfl rfl
  have vw : ∀ pos, PE (cxH (L2N.CX pr w) pr w K mg base wN "_law_word" (defScope wdr.st) f cdv A outer s H E p) (.Name "words" pos) (tVar 2) := fun pos => pe_var rfl (.inl rfl) rfl rfl
  have vf : ∀ pos, PE (cxH (L2N.CX pr w) pr w K mg base wN "_law_word" (defScope wdr.st) f cdv A outer s H E p) (.Name "found" pos) (tVar 3) := fun pos => pe_var rfl (.inl rfl) rfl rfl
  refine ⟨_, pss_cons (ps_nl nd (i := 1) rfl rfl (pe_bl0 (pa_bs (c 0 "NoDeck" _ _ _ _ (by decide) (by rfl) (by rfl) (by rfl)) (pa_bs (c 1 "NoDeed" _ _ _ _ (by decide) (by rfl) (by rfl) (by rfl)) (pa_bs (c 2 "NoLink" _ _ _ _ (by decide) (by rfl) (by rfl) (by rfl)) pa_bs0 rfl) rfl) rfl) (Nat.le_of_ble_eq_true (by rfl))) (by rfl))
    (pss_cons (ps_nl nd (i := 1) (C := fun σ H => holds p σ ∧ hasL 1 ([bs 0, bs 1, bs 2].map V.bl) σ H) rfl rfl (PE.imp (pe_bl1 (ys := ([bs 0, bs 1, bs 2].map V.bl)) (vt _) (pa_bs (c 3 "NoMaster" _ _ _ _ (by decide) (by rfl) (by rfl) (by rfl)) (pa_bs (c 4 "NoName" _ _ _ _ (by decide) (by rfl) (by rfl) (by rfl)) (pa_bs (c 5 "NoNumber" _ _ _ _ (by decide) (by rfl) (by rfl) (by rfl)) pa_bs0 rfl) rfl) rfl) (Nat.le_of_ble_eq_true (by rfl))) fun _ _ _ h => ⟨h.1.1, h.1.2, h.2⟩) (by rfl))
    (pss_cons (ps_nl nd (i := 1) (C := fun σ H => holds p σ ∧ hasL 1 (([bs 0, bs 1, bs 2].map V.bl) ++ [bs 3, bs 4, bs 5].map V.bl) σ H) rfl rfl (PE.imp (pe_bl1 (ys := (([bs 0, bs 1, bs 2].map V.bl) ++ [bs 3, bs 4, bs 5].map V.bl)) (vt _) (pa_bs (c 6 "NoPlace" _ _ _ _ (by decide) (by rfl) (by rfl) (by rfl)) (pa_bs (c 7 "NoPress" _ _ _ _ (by decide) (by rfl) (by rfl) (by rfl)) (pa_bs (c 8 "NoRoom" _ _ _ _ (by decide) (by rfl) (by rfl) (by rfl)) pa_bs0 rfl) rfl) rfl) (Nat.le_of_ble_eq_true (by rfl))) fun _ _ _ h => ⟨h.1.1, h.1.2, h.2⟩) (by rfl))
    (pss_cons (ps_nl nd (i := 1) (C := fun σ H => holds p σ ∧ hasL 1 ((([bs 0, bs 1, bs 2].map V.bl) ++ [bs 3, bs 4, bs 5].map V.bl) ++ [bs 6, bs 7, bs 8].map V.bl) σ H) rfl rfl (PE.imp (pe_bl1 (ys := ((([bs 0, bs 1, bs 2].map V.bl) ++ [bs 3, bs 4, bs 5].map V.bl) ++ [bs 6, bs 7, bs 8].map V.bl)) (vt _) (pa_bs (c 9 "NoRow" _ _ _ _ (by decide) (by rfl) (by rfl) (by rfl)) (pa_bs (c 10 "NoSetting" _ _ _ _ (by decide) (by rfl) (by rfl) (by rfl)) (pa_bs (c 11 "NoShow" _ _ _ _ (by decide) (by rfl) (by rfl) (by rfl)) pa_bs0 rfl) rfl) rfl) (Nat.le_of_ble_eq_true (by rfl))) fun _ _ _ h => ⟨h.1.1, h.1.2, h.2⟩) (by rfl))
    (pss_cons (ps_nl nd (i := 1) (C := fun σ H => holds p σ ∧ hasL 1 (((([bs 0, bs 1, bs 2].map V.bl) ++ [bs 3, bs 4, bs 5].map V.bl) ++ [bs 6, bs 7, bs 8].map V.bl) ++ [bs 9, bs 10, bs 11].map V.bl) σ H) rfl rfl (PE.imp (pe_bl1 (ys := (((([bs 0, bs 1, bs 2].map V.bl) ++ [bs 3, bs 4, bs 5].map V.bl) ++ [bs 6, bs 7, bs 8].map V.bl) ++ [bs 9, bs 10, bs 11].map V.bl)) (vt _) (pa_bs (c 12 "NoSlide" _ _ _ _ (by decide) (by rfl) (by rfl) (by rfl)) (pa_bs (c 13 "NoSteps" _ _ _ _ (by decide) (by rfl) (by rfl) (by rfl)) (pa_bs (c 14 "NoText" _ _ _ _ (by decide) (by rfl) (by rfl) (by rfl)) pa_bs0 rfl) rfl) rfl) (Nat.le_of_ble_eq_true (by rfl))) fun _ _ _ h => ⟨h.1.1, h.1.2, h.2⟩) (by rfl))
    (pss_cons (ps_nl nd (i := 1) (C := fun σ H => holds p σ ∧ hasL 1 ((((([bs 0, bs 1, bs 2].map V.bl) ++ [bs 3, bs 4, bs 5].map V.bl) ++ [bs 6, bs 7, bs 8].map V.bl) ++ [bs 9, bs 10, bs 11].map V.bl) ++ [bs 12, bs 13, bs 14].map V.bl) σ H) rfl rfl (PE.imp (pe_bl1 (ys := ((((([bs 0, bs 1, bs 2].map V.bl) ++ [bs 3, bs 4, bs 5].map V.bl) ++ [bs 6, bs 7, bs 8].map V.bl) ++ [bs 9, bs 10, bs 11].map V.bl) ++ [bs 12, bs 13, bs 14].map V.bl)) (vt _) (pa_bs (c 15 "NoTime" _ _ _ _ (by decide) (by rfl) (by rfl) (by rfl)) (pa_bs (c 16 "NoTrait" _ _ _ _ (by decide) (by rfl) (by rfl) (by rfl)) (pa_bs (c 17 "NoWord" _ _ _ _ (by decide) (by rfl) (by rfl) (by rfl)) pa_bs0 rfl) rfl) rfl) (Nat.le_of_ble_eq_true (by rfl))) fun _ _ _ h => ⟨h.1.1, h.1.2, h.2⟩) (by rfl))
    (pss_cons (ps_nl nd (i := 1) (C := fun σ H => holds p σ ∧ hasL 1 (((((([bs 0, bs 1, bs 2].map V.bl) ++ [bs 3, bs 4, bs 5].map V.bl) ++ [bs 6, bs 7, bs 8].map V.bl) ++ [bs 9, bs 10, bs 11].map V.bl) ++ [bs 12, bs 13, bs 14].map V.bl) ++ [bs 15, bs 16, bs 17].map V.bl) σ H) rfl rfl (PE.imp (pe_bl1 (ys := (((((([bs 0, bs 1, bs 2].map V.bl) ++ [bs 3, bs 4, bs 5].map V.bl) ++ [bs 6, bs 7, bs 8].map V.bl) ++ [bs 9, bs 10, bs 11].map V.bl) ++ [bs 12, bs 13, bs 14].map V.bl) ++ [bs 15, bs 16, bs 17].map V.bl)) (vt _) (pa_bs (c 18 "NoWorth" _ _ _ _ (by decide) (by rfl) (by rfl) (by rfl)) (pa_bs (c 19 "Ring" _ _ _ _ (by decide) (by rfl) (by rfl) (by rfl)) (pa_bs (c 20 "Taken" _ _ _ _ (by decide) (by rfl) (by rfl) (by rfl)) pa_bs0 rfl) rfl) rfl) (Nat.le_of_ble_eq_true (by rfl))) fun _ _ _ h => ⟨h.1.1, h.1.2, h.2⟩) (by rfl))
    (pss_cons (ps_nl nd (i := 1) (C := fun σ H => holds p σ ∧ hasL 1 ((((((([bs 0, bs 1, bs 2].map V.bl) ++ [bs 3, bs 4, bs 5].map V.bl) ++ [bs 6, bs 7, bs 8].map V.bl) ++ [bs 9, bs 10, bs 11].map V.bl) ++ [bs 12, bs 13, bs 14].map V.bl) ++ [bs 15, bs 16, bs 17].map V.bl) ++ [bs 18, bs 19, bs 20].map V.bl) σ H) rfl rfl (PE.imp (pe_bl1 (ys := ((((((([bs 0, bs 1, bs 2].map V.bl) ++ [bs 3, bs 4, bs 5].map V.bl) ++ [bs 6, bs 7, bs 8].map V.bl) ++ [bs 9, bs 10, bs 11].map V.bl) ++ [bs 12, bs 13, bs 14].map V.bl) ++ [bs 15, bs 16, bs 17].map V.bl) ++ [bs 18, bs 19, bs 20].map V.bl)) (vt _) (pa_bs (c 21 "TooMany" _ _ _ _ (by decide) (by rfl) (by rfl) (by rfl)) (pa_bs (c 22 "Used" _ _ _ _ (by decide) (by rfl) (by rfl) (by rfl)) pa_bs0 rfl) rfl) (Nat.le_of_ble_eq_true (by rfl))) fun _ _ _ h => ⟨h.1.1, h.1.2, h.2⟩) (by rfl))
    (pss_cons (ps_nl nd (i := 2) (C := fun _ _ => True) rfl rfl (PE.imp (pe_sp0 sp1 rfl (by decide) rfl) fun _ _ _ h => h.2) rfl)
    (pss_cons (ps_nl nd (i := 2) rfl rfl (pe_sp1 (ys := S1v.map V.str) (vw _) sp2 rfl (by decide) rfl (by decide)) rfl)
    (pss_cons (ps_sel (iF := 3) (iW := 2) (iT := 1) (i1 := 4) (i2 := 5) (own := [("word", 4), ("so", 5)]) (ws := S1v ++ S2v) (bs := (List.range 23).map bs) hot List.mem_cons_self rfl nd rfl rfl rfl (blkOk_by (N := wN) (sc := defScope wdr.st) (by decide +kernel)) rfl (by decide) rfl mz (vw _) (vt _) rfl rfl (show 4 < wN.length by decide) (show 5 < wN.length by decide) rfl rfl rfl rfl rfl rfl rfl (by decide))
    (pss_last (v := V.str v) G rfl mv F.ve rfl ml vf))))))))))), ?_⟩
  have h0 : holds p (L2.start wN [.ref p.1]) := rfl
  refine ⟨h0, fun L1 H1 le1 e1 => ?_⟩
  refine ⟨⟨rfl, _, rfl, e1⟩, fun L2 H2 le2 e2 => ?_⟩
  refine ⟨⟨rfl, _, rfl, e2⟩, fun L3 H3 le3 e3 => ?_⟩
  refine ⟨⟨rfl, _, rfl, e3⟩, fun L4 H4 le4 e4 => ?_⟩
  refine ⟨⟨rfl, _, rfl, e4⟩, fun L5 H5 le5 e5 => ?_⟩
  refine ⟨⟨rfl, _, rfl, e5⟩, fun L6 H6 le6 e6 => ?_⟩
  refine ⟨⟨rfl, _, rfl, e6⟩, fun L7 H7 le7 e7 => ?_⟩
  refine ⟨⟨rfl, _, rfl, e7⟩, fun L8 H8 le8 e8 => ?_⟩
  refine ⟨trivial, fun L9 H9 le9 e9 => ?_⟩
  refine ⟨⟨_, rfl, e9⟩, fun L10 H10 le10 e10 => ?_⟩
  refine ⟨⟨L10, rfl, e10.trans (by simp)⟩, ⟨L8, rfl, (le10 _ _ (le9 _ _ e8)).trans rfl⟩, rfl, fun L11 H11 le11 e11 => ?_⟩
  rw [hsel] at e11
  refine ⟨rfl, ⟨L11, rfl, e11⟩, hq _ (le1.trans (le2.trans (le3.trans (le4.trans (le5.trans (le6.trans (le7.trans (le8.trans (le9.trans (le10.trans le11))))))))))⟩
/-! ### the word of each class -/
def wordOf (c : Nat) (w' : List Nat) : Bool := ld.wcl.contains c && (decide (c < 23) && (w'.all (fun x => decide (x < 1114112)) && decide (sel (S1v ++ S2v) ((List.range 23).map fun i => c == i) = [⟨w'.toArray⟩])))
theorem words_all : Gtbl.all (fun p => match p.2 with
    | .str w' => decide (p.1 < 1000) || wordOf (p.1 - 1000) w'
    | _ => true) = true := by decide +kernel
theorem word_at {c : Nat} {w' : List Nat} (h : G (1000 + c) = .str w') : wordOf c w' = true := by
  have h1 : Gtbl.lookup (1000 + c) = some (.str w') := by
    unfold G at h
    cases q : Gtbl.lookup (1000 + c) with
    | none => rw [q] at h; cases h
    | some d => rw [q] at h; exact congrArg some h
  have := List.all_eq_true.mp words_all _ (lookup_mem h1)
  have e : ¬ 1000 + c < 1000 := by omega
  simp only [decide_eq_false e, Bool.false_or, Nat.add_sub_cancel_left] at this
  exact this
theorem xn_eq : (List.range 23).all (fun i => decide (wdN.getD i "" = ld.xn.getD i "DeckError")) = true := by decide +kernel
theorem wdr_st : fnScopeB wN ["caught"] (defScope wdr.st) = true := by decide +kernel
theorem word_ok {w : World} {K : PySem.W.Frag} {mg : Str → Option Value} {base h : Heap} (s : Std ld w h base mg K) : ∀ x, ld.cfg.wd = some x → ∃ f, WordOk (ld.g w K mg base) f x := by
  intro x hx
  have hx : "_law_word" = x := Option.some.inj hx
  subst hx
  have hm : wdr ∈ ld.all := List.mem_append_right _ (List.mem_append_right _ List.mem_cons_self)
  obtain ⟨fd, F, _, hb⟩ := s.funD hm
  have kp := F.kp
  obtain ⟨oc, od, dV, kV, doc, pm, an, cdv, ct, osl, rfl, lk, hcd, _, _⟩ := F.ex
  have hfree : ∀ y, y ∈ ld.bi → mg y = none := fun y hy => He.free_ok s.x s.n (List.all_eq_true.mp (He.ba (He.ba (He.ba s.ex).1).2).1 y hy)
  refine ⟨He.ga K "_law_word", ⟨s.glo hm rfl, kp, rfl, fun c w' hG => ?_⟩⟩
  have hw := word_at hG
  have a0 := He.ba hw
  have a1 := He.ba a0.2
  have a2 := He.ba a1.2
  have hc : c ∈ ld.wcl := by simpa using a0.1
  have hc23 : c < 23 := of_decide_eq_true a1.1
  refine ⟨fun z hz => of_decide_eq_true (List.all_eq_true.mp a2.1 z hz), ?_⟩
  have wb := (He.ba (He.ba (He.ba s.ex).2).2).2
  have wc := He.ba (List.all_eq_true.mp wb c hc)
  have F2 : WordF K mg (ld.xa K c) (fun i => c == i) := by
    have c0 := He.ba wc.1
    have c1 := He.ba c0.2
    have c2 := He.ba c1.2
    have c3 := He.ba c2.2
    have c4 := He.ba c3.2
    have c5 := He.ba c4.2
    have c6 := He.ba c5.2
    have c7 := He.ba c6.2
    refine ⟨⟨of_decide_eq_true c0.1, of_decide_eq_true c1.1, of_decide_eq_true c2.1, c3.1, of_decide_eq_true c4.1, of_decide_eq_true c5.1, of_decide_eq_true c6.1, of_decide_eq_true c7.1⟩, of_decide_eq_true c7.2, fun i hi => ?_⟩
    have e : wdN.getD i "" = ld.xn.getD i "DeckError" := of_decide_eq_true (List.all_eq_true.mp xn_eq i (List.mem_range.mpr hi))
    have f := He.ba (List.all_eq_true.mp wc.2 i (List.mem_range.mpr hi))
    rw [e]
    exact ⟨He.glo_ok s.x s.n f.1, of_decide_eq_true f.2⟩
  have hsel : sel (S1v ++ S2v) ((List.range 23).map fun i => c == i) = [⟨w'.toArray⟩] := of_decide_eq_true a2.2
  exact ⟨_, wdr.ps, fnw_of (N := wN) (ps := wdr.ps) (k := 0) lk hcd (fnScope_by wdr_st) rfl (fun A outer sh H Q E p hot hd hq => word_run F2 (hfree _ (by decide)) (hfree _ (by decide)) (hfree _ (by decide)) (hfree _ (by decide)) hsel cdv A outer sh H Q E p hot hd hq), rfl, hb⟩
theorem fw_ok {w : World} {K : PySem.W.Frag} {mg : Str → Option Value} {base h : Heap} (s : Std ld w h base mg K) : ∀ x, ld.cfg.fw = some x → ∃ gg, FwOk (ld.g w K mg base) x gg :=
  s.fw (d := (ld.fwd).getD d0) rfl (tn := "things") (bn := "is_bad") (kn := "k") rfl (by decide +kernel)
end Ms.L61

set_option Elab.async false
set_option linter.all false
set_option autoImplicit false
set_option maxRecDepth 100000
set_option maxHeartbeats 2000000
namespace Ms
/-! ## The evaluator's equations (printed by genev.py) -/
@[simp] theorem evE_v_0 (C : Calls) (G : Nat → D) (i : _) (e : _) (s : _) : evE C G (.v i) e s = (Rs.of (e.get i) s) := by simp only [evE] <;> rfl
@[simp] theorem evE_k_1 (C : Calls) (G : Nat → D) (d : _) (z1 : _) (s : _) : evE C G (.k d) z1 s = (.ok d s) := by simp only [evE] <;> rfl
@[simp] theorem evE_g_2 (C : Calls) (G : Nat → D) (j : _) (z1 : _) (s : _) : evE C G (.g j) z1 s = (.ok (G j) s) := by simp only [evE] <;> rfl
@[simp] theorem evE_bin_3 (C : Calls) (G : Nat → D) (o : _) (a : _) (b : _) (e : _) (s : _) : evE C G (.bin o a b) e s = ((evE C G a e s).bind fun x s => (evE C G b e s).bind fun y s => Rs.of (binop o x y) s) := by simp only [evE] <;> rfl
@[simp] theorem evE_neg_4 (C : Calls) (G : Nat → D) (a : _) (e : _) (s : _) : evE C G (.neg a) e s = ((evE C G a e s).bind fun x s => (match x with
    | .int i => .ok (.int (-i)) s
    | _ => .bad)) := by simp only [evE] <;> rfl
@[simp] theorem evE_cmp_5 (C : Calls) (G : Nat → D) (o : _) (a : _) (b : _) (e : _) (s : _) : evE C G (.cmp o a b) e s = ((evE C G a e s).bind fun x s => (evE C G b e s).bind fun y s => Rs.of ((cmpop o (der s x) (der s y)).map D.bl) s) := by simp only [evE] <;> rfl
@[simp] theorem evE_chain_6 (C : Calls) (G : Nat → D) (o : _) (p : _) (a : _) (b : _) (c : _) (e : _) (s : _) : evE C G (.chain o p a b c) e s = ((evE C G a e s).bind fun x s => (evE C G b e s).bind fun y s => (Rs.of (cmpop o (der s x) (der s y)) s).bind fun t s => match t with
    | true => (evE C G c e s).bind fun z s => Rs.of ((cmpop p (der s y) (der s z)).map D.bl) s
    | false => .ok (.bl false) s) := by simp only [evE] <;> rfl
@[simp] theorem evE_isN_7 (C : Calls) (G : Nat → D) (a : _) (e : _) (s : _) : evE C G (.isN a) e s = ((evE C G a e s).bind fun x s => .ok (.bl x.isNon) s) := by simp only [evE] <;> rfl
@[simp] theorem evE_notN_8 (C : Calls) (G : Nat → D) (a : _) (e : _) (s : _) : evE C G (.notN a) e s = ((evE C G a e s).bind fun x s => .ok (.bl (!x.isNon)) s) := by simp only [evE] <;> rfl
@[simp] theorem evE_and_9 (C : Calls) (G : Nat → D) (a : _) (b : _) (e : _) (s : _) : evE C G (.and a b) e s = ((evE C G a e s).bind fun x s => (truthR x s).bind fun t s => match t with
    | true => evE C G b e s
    | false => .ok x s) := by simp only [evE] <;> rfl
@[simp] theorem evE_or_10 (C : Calls) (G : Nat → D) (a : _) (b : _) (e : _) (s : _) : evE C G (.or a b) e s = ((evE C G a e s).bind fun x s => (truthR x s).bind fun t s => match t with
    | true => .ok x s
    | false => evE C G b e s) := by simp only [evE] <;> rfl
@[simp] theorem evE_not_11 (C : Calls) (G : Nat → D) (a : _) (e : _) (s : _) : evE C G (.not a) e s = ((evE C G a e s).bind fun x s => (truthR x s).bind fun t s => .ok (.bl (!t)) s) := by simp only [evE] <;> rfl
@[simp] theorem evE_ite_12 (C : Calls) (G : Nat → D) (c : _) (a : _) (b : _) (e : _) (s : _) : evE C G (.ite c a b) e s = ((evE C G c e s).bind fun x s => (truthR x s).bind fun t s => match t with
    | true => evE C G a e s
    | false => evE C G b e s) := by simp only [evE] <;> rfl
@[simp] theorem evE_call_13 (C : Calls) (G : Nat → D) (f : _) (as : _) (e : _) (s : _) : evE C G (.call f as) e s = ((evEs C G as e s).bind fun xs s => C f xs s) := by simp only [evE] <;> rfl
@[simp] theorem evE_dyn_14 (C : Calls) (G : Nat → D) (a : _) (as : _) (e : _) (s : _) : evE C G (.dyn a as) e s = ((evE C G a e s).bind fun x s => (Rs.of x.fnOf s).bind fun f s => (evEs C G as e s).bind fun xs s => C f xs s) := by simp only [evE] <;> rfl
@[simp] theorem evE_isin_15 (C : Calls) (G : Nat → D) (a : _) (t : _) (e : _) (s : _) : evE C G (.isin a t) e s = ((evE C G a e s).bind fun x s => Rs.of ((isTy s x t).map D.bl) s) := by simp only [evE] <;> rfl
@[simp] theorem evE_b1_16 (C : Calls) (G : Nat → D) (f : _) (a : _) (e : _) (s : _) : evE C G (.b1 f a) e s = ((evE C G a e s).bind fun x s => Rs.of (b1 f (der s x)) s) := by simp only [evE] <;> rfl
@[simp] theorem evE_b2_17 (C : Calls) (G : Nat → D) (f : _) (a : _) (b : _) (e : _) (s : _) : evE C G (.b2 f a b) e s = ((evE C G a e s).bind fun x s => (evE C G b e s).bind fun y s => Rs.of (b2 f x y) s) := by simp only [evE] <;> rfl
@[simp] theorem evE_m_18 (C : Calls) (G : Nat → D) (f : _) (o : _) (as : _) (e : _) (s : _) : evE C G (.m f o as) e s = ((evE C G o e s).bind fun x s => (evEs C G as e s).bind fun xs s => Rs.of (meth f (der s x) (xs.map (der s))) s) := by simp only [evE] <;> rfl
@[simp] theorem evE_me_19 (C : Calls) (G : Nat → D) (c : _) (f : _) (o : _) (as : _) (e : _) (s : _) : evE C G (.me c f o as) e s = ((evE C G o e s).bind fun x s => (Rs.of (noneAll c s x) s).bind fun _ s => (evEs C G as e s).bind fun xs s => C f (x :: xs) s) := by simp only [evE] <;> rfl
@[simp] theorem evE_mk_20 (C : Calls) (G : Nat → D) (c : _) (f : _) (as : _) (e : _) (s : _) : evE C G (.mk c f as) e s = ((evEs C G as e s).bind fun xs s => mkC C c f xs s) := by simp only [evE] <;> rfl
@[simp] theorem evE_newL_21 (C : Calls) (G : Nat → D) (as : _) (e : _) (s : _) : evE C G (.newL as) e s = ((evEs C G as e s).bind fun xs s => (match decide (xs.length ≤ lim) with
    | true => .ok (.obj s.length) (s ++ [.lst xs])
    | false => .bad)) := by simp only [evE] <;> rfl
@[simp] theorem evE_fld_22 (C : Calls) (G : Nat → D) (o : _) (f : _) (e : _) (s : _) : evE C G (.fld o f) e s = ((evE C G o e s).bind fun x s => Rs.of (fldOf s f x) s) := by simp only [evE] <;> rfl
@[simp] theorem evE_ix_23 (C : Calls) (G : Nat → D) (a : _) (b : _) (e : _) (s : _) : evE C G (.ix a b) e s = ((evE C G a e s).bind fun x s => (evE C G b e s).bind fun y s => Rs.of (index (der s x) y) s) := by simp only [evE] <;> rfl
@[simp] theorem evE_sl_24 (C : Calls) (G : Nat → D) (a : _) (lo : _) (hi : _) (e : _) (s : _) : evE C G (.sl a lo hi) e s = ((evE C G a e s).bind fun x s => (evO C G lo e s).bind fun l s => (evO C G hi e s).bind fun h s => Rs.of (sliceV x l h) s) := by simp only [evE] <;> rfl
@[simp] theorem evE_tup_25 (C : Calls) (G : Nat → D) (as : _) (e : _) (s : _) : evE C G (.tup as) e s = ((evEs C G as e s).bind fun xs s => (match decide (xs.length ≤ lim) with
    | true => .ok (.tup xs) s
    | false => .bad)) := by simp only [evE] <;> rfl
@[simp] theorem evE_fl_26 (C : Calls) (G : Nat → D) (f : _) (e : _) (s : _) : evE C G (.fl f) e s = ((evF C G f e s).bind fun xs s => .ok (.lst xs) s) := by simp only [evE] <;> rfl
@[simp] theorem evE_fw_27 (C : Calls) (G : Nat → D) (a : _) (caps : _) (nl : _) (b : _) (e : _) (s : _) : evE C G (.fw a caps nl b) e s = ((evE C G a e s).bind fun x s => (Rs.of (b1 .len (der s x)) s).bind fun n s => (Rs.of (getAll caps e) s).bind fun vs s => (match n with
    | .int n => (match midInt n with
      | true => noEx (fwGo (fun i s => (evE C G b (startE nl (.int i :: vs)) s).bind truthR) 0 n.toNat s)
      | false => .bad)
    | _ => .bad)) := by simp only [evE] <;> rfl
@[simp] theorem evE_lenO_28 (C : Calls) (G : Nat → D) (i : _) (e : _) (s : _) : evE C G (.lenO i) e s = ((Rs.of (e.getO i) s).bind fun l s => .ok (.int l.length) s) := by simp only [evE] <;> rfl
@[simp] theorem evE_inO_29 (C : Calls) (G : Nat → D) (neg : _) (a : _) (i : _) (e : _) (s : _) : evE C G (.inO neg a i) e s = ((evE C G a e s).bind fun x s => (Rs.of (e.getO i) s).bind fun l s => Rs.of ((isIn x (.lst l)).map fun b => .bl (b != neg)) s) := by simp only [evE] <;> rfl
@[simp] theorem evE_ixO_30 (C : Calls) (G : Nat → D) (i : _) (a : _) (e : _) (s : _) : evE C G (.ixO i a) e s = ((Rs.of (e.getO i) s).bind fun l s => (evE C G a e s).bind fun y s => Rs.of (index (.lst l) y) s) := by simp only [evE] <;> rfl
@[simp] theorem evE_pop_31 (C : Calls) (G : Nat → D) (a : _) (e : _) (s : _) : evE C G (.pop a) e s = ((evE C G a e s).bind popS) := by simp only [evE] <;> rfl
@[simp] theorem evE_bad_32 (C : Calls) (G : Nat → D) (z1 : _) (z2 : _) : evE C G (.bad) z1 z2 = (.bad) := by simp only [evE] <;> rfl
@[simp] theorem evF_lst_0 (C : Calls) (G : Nat → D) (as : _) (e : _) (s : _) : evF C G (.lst as) e s = ((evEs C G as e s).bind fun xs s => (match decide (xs.length ≤ lim) with
    | true => .ok xs s
    | false => .bad)) := by simp only [evF] <;> rfl
@[simp] theorem evF_cat_1 (C : Calls) (G : Nat → D) (a : _) (b : _) (e : _) (s : _) : evF C G (.cat a b) e s = ((evE C G a e s).bind fun x s => (evE C G b e s).bind fun y s => Rs.of (catL (der s x) (der s y)) s) := by simp only [evF] <;> rfl
@[simp] theorem evF_slc_2 (C : Calls) (G : Nat → D) (a : _) (lo : _) (hi : _) (e : _) (s : _) : evF C G (.slc a lo hi) e s = ((evE C G a e s).bind fun x s => (evO C G lo e s).bind fun l s => (evO C G hi e s).bind fun h s => Rs.of (sliceL (der s x) l h) s) := by simp only [evF] <;> rfl
@[simp] theorem evF_lc_3 (C : Calls) (G : Nat → D) (elt : _) (tg : _) (it : _) (c : _) (own : _) (e : _) (s : _) : evF C G (.lc elt tg it c own) e s = ((evIt C G it e s).bind fun ds s => (match decide (ds.length ≤ lim) with
    | true => noEx (lcGo tg (wipeE e own) (evC C G c) (evE C G elt) ds s)
    | false => .bad)) := by simp only [evF] <;> rfl
@[simp] theorem evF_list_4 (C : Calls) (G : Nat → D) (a : _) (e : _) (s : _) : evF C G (.list a) e s = ((evE C G a e s).bind fun x s => (match der s x with
    | .lst l | .tup l => .ok l s
    | _ => .bad)) := by simp only [evF] <;> rfl
@[simp] theorem evF_split_5 (C : Calls) (G : Nat → D) (a : _) (b : _) (e : _) (s : _) : evF C G (.split a b) e s = ((evE C G a e s).bind fun x s => (evE C G b e s).bind fun y s => Rs.of (splitV x y) s) := by simp only [evF] <;> rfl
@[simp] theorem evF_srt_6 (C : Calls) (G : Nat → D) (a : _) (e : _) (s : _) : evF C G (.srt a) e s = ((evE C G a e s).bind fun x s => Rs.of (sortV (der s x)) s) := by simp only [evF] <;> rfl
@[simp] theorem evF_rep_7 (C : Calls) (G : Nat → D) (a : _) (b : _) (e : _) (s : _) : evF C G (.rep a b) e s = ((evE C G a e s).bind fun x s => (evE C G b e s).bind fun y s => Rs.of (repL (der s x) y) s) := by simp only [evF] <;> rfl
@[simp] theorem evIt_seq_0 (C : Calls) (G : Nat → D) (a : _) (e : _) (s : _) : evIt C G (.seq a) e s = ((evE C G a e s).bind fun x s => Rs.of (seqIt x) s) := by simp only [evIt] <;> rfl
@[simp] theorem evIt_rng1_1 (C : Calls) (G : Nat → D) (a : _) (e : _) (s : _) : evIt C G (.rng1 a) e s = ((evE C G a e s).bind fun x s => Rs.of (rng1 x) s) := by simp only [evIt] <;> rfl
@[simp] theorem evIt_rng2_2 (C : Calls) (G : Nat → D) (a : _) (b : _) (e : _) (s : _) : evIt C G (.rng2 a b) e s = ((evE C G a e s).bind fun x s => (evE C G b e s).bind fun y s => Rs.of (rng2 x y) s) := by simp only [evIt] <;> rfl
@[simp] theorem evIt_zip_3 (C : Calls) (G : Nat → D) (a : _) (b : _) (e : _) (s : _) : evIt C G (.zip a b) e s = ((evE C G a e s).bind fun x s => (evE C G b e s).bind fun y s => Rs.of (zipIt x y) s) := by simp only [evIt] <;> rfl
@[simp] theorem evIt_rev_4 (C : Calls) (G : Nat → D) (a : _) (e : _) (s : _) : evIt C G (.rev a) e s = ((evE C G a e s).bind fun x s => Rs.of (revIt x) s) := by simp only [evIt] <;> rfl
@[simp] theorem evEs_nil_0 (C : Calls) (G : Nat → D) (z1 : _) (s : _) : evEs C G (.nil) z1 s = (.ok [] s) := by simp only [evEs] <;> rfl
@[simp] theorem evEs_cons_1 (C : Calls) (G : Nat → D) (a : _) (r : _) (e : _) (s : _) : evEs C G (.cons a r) e s = ((evE C G a e s).bind fun x s => (evEs C G r e s).bind fun xs s => .ok (x :: xs) s) := by simp only [evEs] <;> rfl
@[simp] theorem evO_none_0 (C : Calls) (G : Nat → D) (z1 : _) (s : _) : evO C G (.none) z1 s = (.ok none s) := by simp only [evO] <;> rfl
@[simp] theorem evO_some_1 (C : Calls) (G : Nat → D) (a : _) (e : _) (s : _) : evO C G (.some a) e s = ((evE C G a e s).bind fun x s => (Rs.of (optInt x) s).bind fun i s => .ok (some i) s) := by simp only [evO] <;> rfl
@[simp] theorem evC_none_0 (C : Calls) (G : Nat → D) (z1 : _) (s : _) : evC C G (.none) z1 s = (.ok true s) := by simp only [evC] <;> rfl
@[simp] theorem evC_some_1 (C : Calls) (G : Nat → D) (a : _) (e : _) (s : _) : evC C G (.some a) e s = ((evE C G a e s).bind truthR) := by simp only [evC] <;> rfl
@[simp] theorem evS_set_0 (C : Calls) (G : Nat → D) (i : _) (a : _) (e : _) (s : _) : evS C G (.set i a) e s = ((evE C G a e s).bindS e fun x s => .nx (e.set i (.val x)) s) := by simp only [evS] <;> rfl
@[simp] theorem evS_own_1 (C : Calls) (G : Nat → D) (i : _) (f : _) (e : _) (s : _) : evS C G (.own i f) e s = ((evF C G f e s).bindS e fun l s => .nx (e.set i (.own l)) s) := by simp only [evS] <;> rfl
@[simp] theorem evS_unp_2 (C : Calls) (G : Nat → D) (is : _) (a : _) (e : _) (s : _) : evS C G (.unp is a) e s = ((evE C G a e s).bindS e fun x s => unpS is x e s) := by simp only [evS] <;> rfl
@[simp] theorem evS_par_3 (C : Calls) (G : Nat → D) (is : _) (a : _) (e : _) (s : _) : evS C G (.par is a) e s = ((evE C G a e s).bindS e fun x s => (match x with
    | .tup ds => (match decide (ds.length = is.length) with
      | true => .nx (setRev is ds e) s
      | false => .bad)
    | _ => .bad)) := by simp only [evS] <;> rfl
@[simp] theorem evS_paro_4 (C : Calls) (G : Nat → D) (i : _) (j : _) (a : _) (f : _) (e : _) (s : _) : evS C G (.paro i j a f) e s = ((evE C G a e s).bindS e fun x s => (evF C G f e s).bindS e fun l s => .nx ((e.set j (.own l)).set i (.val x)) s) := by simp only [evS] <;> rfl
@[simp] theorem evS_ex_5 (C : Calls) (G : Nat → D) (a : _) (e : _) (s : _) : evS C G (.ex a) e s = ((evE C G a e s).bindS e fun _ s => .nx e s) := by simp only [evS] <;> rfl
@[simp] theorem evS_app_6 (C : Calls) (G : Nat → D) (i : _) (a : _) (e : _) (s : _) : evS C G (.app i a) e s = ((Rs.of (e.getO i) s).bindS e fun l s => (evE C G a e s).bindS e fun x s => (match decide (l.length < lim) with
    | true => .nx (e.set i (.own (l ++ [x]))) s
    | false => .bad)) := by simp only [evS] <;> rfl
@[simp] theorem evS_ext_7 (C : Calls) (G : Nat → D) (i : _) (a : _) (e : _) (s : _) : evS C G (.ext i a) e s = ((Rs.of (e.getO i) s).bindS e fun l s => (evE C G a e s).bindS e fun x s => extO l i x e s) := by simp only [evS] <;> rfl
@[simp] theorem evS_ins_8 (C : Calls) (G : Nat → D) (i : _) (a : _) (b : _) (e : _) (s : _) : evS C G (.ins i a b) e s = ((Rs.of (e.getO i) s).bindS e fun l s => (evE C G a e s).bindS e fun k s => (evE C G b e s).bindS e fun x s => insO l i k x e s) := by simp only [evS] <;> rfl
@[simp] theorem evS_setO_9 (C : Calls) (G : Nat → D) (i : _) (a : _) (b : _) (e : _) (s : _) : evS C G (.setO i a b) e s = ((Rs.of (e.getO i) s).bindS e fun l s => (evE C G b e s).bindS e fun x s => (evE C G a e s).bindS e fun k s => setOO l i k x e s) := by simp only [evS] <;> rfl
@[simp] theorem evS_appS_10 (C : Calls) (G : Nat → D) (o : _) (a : _) (e : _) (s : _) : evS C G (.appS o a) e s = ((evE C G o e s).bindS e fun y s => (Rs.of (lstOf s y) s).bindS e fun _ s => (evE C G a e s).bindS e fun x s => appSS y x e s) := by simp only [evS] <;> rfl
@[simp] theorem evS_setI_11 (C : Calls) (G : Nat → D) (o : _) (a : _) (b : _) (e : _) (s : _) : evS C G (.setI o a b) e s = ((evE C G b e s).bindS e fun x s => (evE C G o e s).bindS e fun y s => (evE C G a e s).bindS e fun k s => setIS y k x e s) := by simp only [evS] <;> rfl
@[simp] theorem evS_setF_12 (C : Calls) (G : Nat → D) (o : _) (f : _) (b : _) (e : _) (s : _) : evS C G (.setF o f b) e s = ((evE C G b e s).bindS e fun x s => (evE C G o e s).bindS e fun y s => setFS y f x e s) := by simp only [evS] <;> rfl
@[simp] theorem evS_unp2_13 (C : Calls) (G : Nat → D) (i : _) (o : _) (a : _) (b : _) (e : _) (s : _) : evS C G (.unp2 i o a b) e s = ((evE C G b e s).bindS e fun t s => (match t with
    | .tup [x, z] => (evE C G o (e.set i (.val x)) s).bindS (e.set i (.val x)) fun y s => (evE C G a (e.set i (.val x)) s).bindS (e.set i (.val x)) fun k s => setIS y k z (e.set i (.val x)) s
    | _ => .bad)) := by simp only [evS] <;> rfl
@[simp] theorem evS_ret_14 (C : Calls) (G : Nat → D) (a : _) (e : _) (s : _) : evS C G (.ret a) e s = ((evE C G a e s).bindS e fun x s => .rt x s) := by simp only [evS] <;> rfl
@[simp] theorem evS_retN_15 (C : Calls) (G : Nat → D) (z1 : _) (s : _) : evS C G (.retN) z1 s = (.rt .non s) := by simp only [evS] <;> rfl
@[simp] theorem evS_ifs_16 (C : Calls) (G : Nat → D) (c : _) (t : _) (f : _) (e : _) (s : _) : evS C G (.ifs c t f) e s = ((evE C G c e s).bindS e fun x s => (truthR x s).bindS e fun b s => match b with
    | true => evSs C G t e s
    | false => evSs C G f e s) := by simp only [evS] <;> rfl
@[simp] theorem evS_for_17 (C : Calls) (G : Nat → D) (tg : _) (it : _) (b : _) (e : _) (s : _) : evS C G (.for_ tg it b) e s = ((evIt C G it e s).bindS e fun ds s => forGo tg (evSs C G b) ds e s) := by simp only [evS] <;> rfl
@[simp] theorem evS_while_18 (C : Calls) (G : Nat → D) (c : _) (b : _) (e : _) (s : _) : evS C G (.while_ c b) e s = (whileGo (fun e s => (evE C G c e s).bind truthR) (evSs C G b) fuel e s) := by simp only [evS] <;> rfl
@[simp] theorem evS_raise_19 (C : Calls) (G : Nat → D) (c : _) (a : _) (e : _) (s : _) : evS C G (.raise_ c a) e s = ((evE C G a e s).bindS e fun x s => .ex c x e s) := by simp only [evS] <;> rfl
@[simp] theorem evS_try_20 (C : Calls) (G : Nat → D) (b : _) (h : _) (i : _) (cl : _) (e : _) (s : _) : evS C G (.try_ b h i cl) e s = ((match evSs C G b e s with
    | .ex c r e1 s1 => (match decide (c < 24) with
      | false => .bad
      | true => (match cl.contains c with
      | true => (match decide (i < e1.length) with
        | true => (match hdV G h c r with
          | some d => .rt d s1
          | none => .bad)
        | false => .bad)
      | false => .ex c r e1 s1))
    | r => r)) := by simp only [evS] <;> rfl
@[simp] theorem evS_brk_21 (C : Calls) (G : Nat → D) (e : _) (s : _) : evS C G (.brk) e s = (.bk e s) := by simp only [evS] <;> rfl
@[simp] theorem evS_cont_22 (C : Calls) (G : Nat → D) (e : _) (s : _) : evS C G (.cont) e s = (.ct e s) := by simp only [evS] <;> rfl
@[simp] theorem evS_pass_23 (C : Calls) (G : Nat → D) (e : _) (s : _) : evS C G (.pass) e s = (.nx e s) := by simp only [evS] <;> rfl
@[simp] theorem evS_bad_24 (C : Calls) (G : Nat → D) (z1 : _) (z2 : _) : evS C G (.bad) z1 z2 = (.bad) := by simp only [evS] <;> rfl
@[simp] theorem evSs_nil_0 (C : Calls) (G : Nat → D) (e : _) (s : _) : evSs C G (.nil) e s = (.nx e s) := by simp only [evSs] <;> rfl
@[simp] theorem evSs_cons_1 (C : Calls) (G : Nat → D) (a : _) (r : _) (e : _) (s : _) : evSs C G (.cons a r) e s = ((evS C G a e s).bind fun e s => evSs C G r e s) := by simp only [evSs] <;> rfl
@[simp] theorem evSs_frz_2 (C : Calls) (G : Nat → D) (i : _) (r : _) (e : _) (s : _) : evSs C G (.frz i r) e s = ((match frzE i e with
    | some e => evSs C G r e s
    | none => .bad)) := by simp only [evSs] <;> rfl
end Ms

set_option Elab.async false
set_option linter.all false
set_option autoImplicit false
set_option maxRecDepth 100000
set_option maxHeartbeats 4000000
namespace Ms
/-! ## Mathematics: calls, draws -/
theorem call_eq {k f n p : Nat} {b : Ss} {ds : List D} {s : Sto} (h : T f = some ⟨n, p, b⟩) (hl : ds.length = p) : callK G T (k + 1) f ds s = runB (callK G T k) G n b ds s := by
  simp only [callK, h, hl, if_true]
@[simp] theorem der_non (s : Sto) : der s .non = .non := rfl
@[simp] theorem der_bl' (s : Sto) (b : Bool) : der s (.bl b) = .bl b := rfl
@[simp] theorem der_int' (s : Sto) (i : Int) : der s (.int i) = .int i := rfl
@[simp] theorem der_str' (s : Sto) (x : List Nat) : der s (.str x) = .str x := rfl
@[simp] theorem der_tup' (s : Sto) (x : List D) : der s (.tup x) = .tup x := rfl
@[simp] theorem der_lst' (s : Sto) (x : List D) : der s (.lst x) = .lst x := rfl
@[simp] theorem der_dct' (s : Sto) (x : List (D × D)) : der s (.dct x) = .dct x := rfl
@[simp] theorem der_fn' (s : Sto) (x : Nat) : der s (.fn x) = .fn x := rfl
@[simp] theorem eqv_str (x y : List Nat) : (D.str x).eqv (.str y) = (x == y) := by simp only [D.eqv]
@[simp] theorem eqv_int (x y : Int) : (D.int x).eqv (.int y) = (x == y) := by simp only [D.eqv]
@[simp] theorem eqv_bl (x y : Bool) : (D.bl x).eqv (.bl y) = (x == y) := by simp only [D.eqv]
@[simp] theorem eqv_non : D.non.eqv .non = true := by simp only [D.eqv]
@[simp] theorem eqv_tup (x y : List D) : (D.tup x).eqv (.tup y) = D.eqvL x y := by simp only [D.eqv]
@[simp] theorem eqv_lst (x y : List D) : (D.lst x).eqv (.lst y) = D.eqvL x y := by simp only [D.eqv]
@[simp] theorem eqvL_nil : D.eqvL [] [] = true := by simp only [D.eqvL]
@[simp] theorem eqvL_cons (x y : D) (xs ys : List D) : D.eqvL (x :: xs) (y :: ys) = (D.eqv x y && D.eqvL xs ys) := by simp only [D.eqvL]
@[simp] theorem eqvL_nc (x : D) (xs : List D) : D.eqvL [] (x :: xs) = false := by simp only [D.eqvL]
@[simp] theorem eqvL_cn (x : D) (xs : List D) : D.eqvL (x :: xs) [] = false := by simp only [D.eqvL]
@[simp] theorem plain_str (x : List Nat) : (D.str x).plain = true := by simp only [D.plain]
@[simp] theorem plain_int (x : Int) : (D.int x).plain = true := by simp only [D.plain]
@[simp] theorem plain_bl (x : Bool) : (D.bl x).plain = true := by simp only [D.plain]
@[simp] theorem plain_non : D.non.plain = true := by simp only [D.plain]
@[simp] theorem plain_tup (x : List D) : (D.tup x).plain = D.plainL x := by simp only [D.plain]
@[simp] theorem plain_lst (x : List D) : (D.lst x).plain = D.plainL x := by simp only [D.plain]
@[simp] theorem plainL_nil : D.plainL [] = true := by simp only [D.plainL]
@[simp] theorem plainL_cons (x : D) (xs : List D) : D.plainL (x :: xs) = (x.plain && D.plainL xs) := by simp only [D.plainL]
@[simp] theorem depth_str (x : List Nat) : (D.str x).depth = 0 := by simp only [D.depth]
@[simp] theorem depth_int (x : Int) : (D.int x).depth = 0 := by simp only [D.depth]
@[simp] theorem depth_bl (x : Bool) : (D.bl x).depth = 0 := by simp only [D.depth]
@[simp] theorem depth_non : D.non.depth = 0 := by simp only [D.depth]
@[simp] theorem depth_tup (x : List D) : (D.tup x).depth = D.depthL x + 1 := by simp only [D.depth]
@[simp] theorem depth_lst (x : List D) : (D.lst x).depth = D.depthL x + 1 := by simp only [D.depth]
@[simp] theorem depthL_nil : D.depthL [] = 0 := by simp only [D.depthL]
@[simp] theorem depthL_cons (x : D) (xs : List D) : D.depthL (x :: xs) = max x.depth (D.depthL xs) := by simp only [D.depthL]
@[simp] theorem isNon_non : D.non.isNon = true := rfl
@[simp] theorem isNon_str (x : List Nat) : (D.str x).isNon = false := rfl
@[simp] theorem isNon_int (x : Int) : (D.int x).isNon = false := rfl
@[simp] theorem isNon_bl (x : Bool) : (D.bl x).isNon = false := rfl
@[simp] theorem isNon_tup (x : List D) : (D.tup x).isNon = false := rfl
@[simp] theorem isNon_lst (x : List D) : (D.lst x).isNon = false := rfl
@[simp] theorem flat_str (x : List Nat) : (D.str x).flat = true := rfl
@[simp] theorem flat_int (x : Int) : (D.int x).flat = true := rfl
@[simp] theorem flat_bl (x : Bool) : (D.bl x).flat = true := rfl
@[simp] theorem flat_non : D.non.flat = true := rfl
theorem ix_lt {α : Type} (l : List α) (i : Int) (h0 : 0 ≤ i) (h1 : i < l.length) : atIx l i = l[i.toNat]? := by
  simp [atIx, ixPos, h0, h1]
theorem index_0 (a : D) (l : List D) : index (.tup (a :: l)) (.int 0) = some a := by
  show atIx _ _ = _
  rw [ix_lt _ _ (by omega) (by simp)]; rfl
theorem index_1 (a b : D) (l : List D) : index (.tup (a :: b :: l)) (.int 1) = some b := by
  show atIx _ _ = _
  rw [ix_lt _ _ (by omega) (by simp; omega)]; rfl
theorem index_2 (a b c : D) (l : List D) : index (.tup (a :: b :: c :: l)) (.int 2) = some c := by
  show atIx _ _ = _
  rw [ix_lt _ _ (by omega) (by simp; omega)]; rfl
def penS (xs : List Int) (a b : Int) : Cell := .lst [.lst (xs.map .int), .int a, .int b]
@[simp] theorem get_val (e : Env) (i : Nat) : e.get i = (match e[i]? with
  | some (.val d) => some d
  | _ => none) := rfl
theorem set_at {s : Sto} {i : Nat} {c c' : Cell} (h : s[i]? = some c) : (s.set i c')[i]? = some c' := by
  rw [List.getElem?_set_self]
  exact (List.getElem?_eq_some_iff.mp h).1
theorem small_of {i : Int} (h1 : 0 ≤ i) (h2 : i < 18446744073709551616) : small i = true := by
  simp only [small, decide_eq_true_eq]; omega
def drawN (c a : Int) : Int := ((((c % 2147483629 + 11) * (a * a + 5 * a + 3) % 2147483647) ^ 3 + 69621 * a) % 2147483587 * 40692 % 2147483399) / 64
theorem index_zero (a b c : D) : index (.lst [a, b, c]) (.int 0) = some a := rfl
theorem index_one (a b c : D) : index (.lst [a, b, c]) (.int 1) = some b := rfl
theorem index_two (a b c : D) : index (.lst [a, b, c]) (.int 2) = some c := rfl
theorem draw_spec (k : Nat) (xs : List Int) (a b m : Int) (s : Sto) (i : Nat) (h : s[i]? = some (penS xs a b)) (ha : 0 ≤ a) (ha2 : a < 1000000000) (hb : 0 ≤ b) (hm : 0 < m) (hm2 : m < 1073741824) :
    ∃ r a' b', 0 ≤ r ∧ r < m ∧ 0 ≤ b' ∧ a ≤ a' ∧ a' ≤ a + 1 ∧ callK G T (k + 1) n__law_draw [.obj i, .int m] s = .ok (.int r) (s.set i (penS xs a' b')) := by
  have hm2 : m.natAbs < 1073741824 := by omega
  rw [call_eq T__law_draw rfl]
  by_cases hb0 : 0 < b
  · refine ⟨b % m, a, b / m, Int.emod_nonneg _ (by omega), Int.emod_lt_of_pos _ hm, Int.ediv_nonneg hb (by omega), by omega, by omega, ?_⟩
    simp [runB, F__law_draw, startE, Sto.list, h, penS, der, index, atIx, ixPos, cmpop, truthR, truth, hb0, hm, hm2, binop, setIS]
  · obtain rfl : b = 0 := by omega
    have hs1 : small a = true := small_of ha (by omega)
    have tail : ∀ (c : Int), evSs (callK G T k) G (.cons (.set 5 (.bin .mod (.bin .mul (.bin .add (.bin .mod (.v 4) (.k (.int 2147483629))) (.k (.int 11))) (.bin .add (.bin .add (.bin .mul (.v 3) (.v 3)) (.bin .mul (.k (.int 5)) (.v 3))) (.k (.int 3)))) (.k (.int 2147483647))))
 (.cons (.ret (.bin .mod (.bin .fdiv (.bin .mod (.bin .mul (.bin .mod (.bin .add (.bin .pow (.v 5) (.k (.int 3))) (.bin .mul (.k (.int 69621)) (.v 3))) (.k (.int 2147483587))) (.k (.int 40692))) (.k (.int 2147483399))) (.k (.int 64))) (.v 1)))
 .nil)) [.val (.obj i), .val (.int m), .non, .val (.int a), .val (.int c), .non] (s.set i (penS xs (a + 1) 0)) = .rt (.int (drawN c a % m)) (s.set i (penS xs (a + 1) 0)) := by
      intro c
      have p1 : 0 ≤ c % 2147483629 := Int.emod_nonneg _ (by decide)
      have p2 : c % 2147483629 < 2147483629 := Int.emod_lt_of_pos _ (by decide)
      have hs2 : small (c % 2147483629 + 11) = true := small_of (by omega) (by omega)
      unfold drawN
      generalize hn : (c % 2147483629 + 11) * (a * a + 5 * a + 3) % 2147483647 = n1
      have q1 : 0 ≤ n1 := by rw [← hn]; exact Int.emod_nonneg _ (by decide)
      have q2 : n1 < 2147483647 := by rw [← hn]; exact Int.emod_lt_of_pos _ (by decide)
      have q3 : n1.natAbs < 18446744073709551616 := by omega
      have s5 : small 5 = true := by decide
      have s6 : small 69621 = true := by decide
      have s7 : small 40692 = true := by decide
      simp [binop, hs1, hs2, s5, s6, s7, hn, q3, hm]
    have rng : ∀ c, 0 ≤ drawN c a % m ∧ drawN c a % m < m := fun c => ⟨Int.emod_nonneg _ (by omega), Int.emod_lt_of_pos _ hm⟩
    by_cases hx : xs = []
    · subst hx
      refine ⟨drawN 7 a % m, a + 1, 0, (rng 7).1, (rng 7).2, by omega, by omega, by omega, ?_⟩
      have r3 := tail 7
      have hl0 : ¬ (a < 0) := by omega
      simp [runB, F__law_draw, startE, Sto.list, h, penS, der, index, atIx, ixPos, cmpop, truthR, truth, hm, hm2, binop, setIS, b1, set_at h, hl0] at r3 ⊢
      rw [r3]
    · obtain ⟨c, hc⟩ : ∃ c, index (.lst (xs.map D.int)) (.int (a % (xs.length : Int))) = some (.int c) := by
        have hl : 0 < xs.length := List.length_pos_iff.mpr hx
        have e1 : 0 ≤ a % (xs.length : Int) := Int.emod_nonneg _ (by omega)
        have e2 : a % (xs.length : Int) < xs.length := Int.emod_lt_of_pos _ (by omega)
        have e3 : (a % (xs.length : Int)).toNat < xs.length := by omega
        refine ⟨xs[(a % (xs.length : Int)).toNat], ?_⟩
        simp [index, atIx, ixPos, e1, e2, List.getElem?_eq_getElem e3]
      have hl : 0 < xs.length := List.length_pos_iff.mpr hx
      have r3 := tail c
      by_cases hbig : a < xs.length ∧ 1000000000000000000 ≤ c
      · refine ⟨c % m, a + 1, c / m, Int.emod_nonneg _ (by omega), Int.emod_lt_of_pos _ hm, Int.ediv_nonneg (by omega) (by omega), by omega, by omega, ?_⟩
        simp [runB, F__law_draw, startE, Sto.list, h, penS, der, index_two, index_one, index_zero, ixPos, cmpop, truthR, truth, hm, hm2, binop, setIS, b1, set_at h, hl, hbig.1, hbig.2, hc]
      · refine ⟨drawN c a % m, a + 1, 0, (rng c).1, (rng c).2, by omega, by omega, by omega, ?_⟩
        by_cases hl1 : a < xs.length
        · have hl2 : ¬ (1000000000000000000 ≤ c) := fun q => hbig ⟨hl1, q⟩
          simp [runB, F__law_draw, startE, Sto.list, h, penS, der, index_two, index_one, index_zero, ixPos, cmpop, truthR, truth, hm, hm2, binop, setIS, b1, set_at h, hl, hl1, hl2, hc] at r3 ⊢
          rw [r3]
        · simp [runB, F__law_draw, startE, Sto.list, h, penS, der, index_two, index_one, index_zero, ixPos, cmpop, truthR, truth, hm, hm2, binop, setIS, b1, set_at h, hl, hl1, hc] at r3 ⊢
          rw [r3]
end Ms

set_option Elab.async false
set_option linter.all false
set_option autoImplicit false
set_option maxRecDepth 100000
set_option maxHeartbeats 4000000
namespace Ms
/-! ## Draws: what a def that draws from the pen does -/
/-- the store with the pen at place i -/
structure Pn where
  s : Sto
  i : Nat
  xs : List Int
  h : i < s.length
def Pn.st (p : Pn) (a q : Int) : Sto := p.s.set p.i (penS p.xs a q)
theorem Pn.at (p : Pn) (a q : Int) : (p.st a q)[p.i]? = some (penS p.xs a q) := by
  unfold Pn.st
  rw [List.getElem?_set_self p.h]
theorem Pn.set (p : Pn) (a q a' q' : Int) : (p.st a q).set p.i (penS p.xs a' q') = p.st a' q' := by
  unfold Pn.st
  rw [List.set_set]
theorem Pn.ne (p : Pn) {j : Nat} (h : j ≠ p.i) (a q : Int) : (p.st a q)[j]? = p.s[j]? := by
  unfold Pn.st
  rw [List.getElem?_set_ne (Ne.symm h)]
theorem Pn.len (p : Pn) (a q : Int) : (p.st a q).length = p.s.length := by
  unfold Pn.st
  rw [List.length_set]
def big : Int := 1000000000
/-- with at most c draws it comes to a value with P -/
def Dr {α : Type} (p : Pn) (c : Int) (m : Sto → Rs α) (P : α → Prop) : Prop :=
  ∀ a q, 0 ≤ a → 0 ≤ q → a + c ≤ big → ∃ d a' q', m (p.st a q) = .ok d (p.st a' q') ∧ a ≤ a' ∧ a' ≤ a + c ∧ 0 ≤ q' ∧ P d
theorem Dr.imp {α : Type} {p : Pn} {c c' : Int} {m : Sto → Rs α} {P P' : α → Prop} (h : Dr p c m P) (hc : c ≤ c') (hp : ∀ d, P d → P' d) : Dr p c' m P' := fun a q ha hq hb => by
  obtain ⟨d, a', q', e, h1, h2, h3, h4⟩ := h a q ha hq (by omega)
  exact ⟨d, a', q', e, h1, by omega, h3, hp d h4⟩
theorem Dr.ok {α : Type} {p : Pn} {d : α} {P : α → Prop} (h : P d) : Dr p 0 (fun s => .ok d s) P := fun a q ha hq _ => ⟨d, a, q, rfl, by omega, by omega, hq, h⟩
theorem Dr.bind {α β : Type} {p : Pn} {c1 c2 : Int} {m : Sto → Rs α} {f : α → Sto → Rs β} {P : α → Prop} {Q : β → Prop} (h1 : Dr p c1 m P) (h2 : ∀ d, P d → Dr p c2 (f d) Q) (hc : 0 ≤ c2) : Dr p (c1 + c2) (fun s => (m s).bind f) Q := fun a q ha hq hb => by
  obtain ⟨d, a1, q1, e1, l1, u1, k1, p1⟩ := h1 a q ha hq (by omega)
  obtain ⟨d2, a2, q2, e2, l2, u2, k2, p2⟩ := h2 d p1 a1 q1 (by omega) k1 (by omega)
  exact ⟨d2, a2, q2, by show (m (p.st a q)).bind f = _; rw [e1]; exact e2, by omega, by omega, k2, p2⟩
theorem Dr.of {α : Type} {p : Pn} {o : Option α} {d : α} {P : α → Prop} (e : o = some d) (h : P d) : Dr p 0 (fun s => Rs.of o s) P := by
  subst e
  exact Dr.ok h
/-- one draw -/
theorem dr_draw (p : Pn) (k : Nat) {m : Int} (hm : 0 < m) (hm2 : m < 1073741824) : Dr p 1 (callK G T (k + 1) n__law_draw [.obj p.i, .int m]) (fun d => ∃ r, d = .int r ∧ 0 ≤ r ∧ r < m) := fun a q ha hq hb => by
  obtain ⟨r, a', q', r0, r1, hq', h1, h2, e⟩ := draw_spec k p.xs a q m (p.st a q) p.i (p.at a q) ha (by unfold big at hb; omega) hq hm hm2
  rw [p.set] at e
  exact ⟨.int r, a', q', e, h1, h2, hq', r, rfl, r0, r1⟩
/-- side by side -/
inductive All2 {α β : Type} (R : α → β → Prop) : List α → List β → Prop
  | nil : All2 R [] []
  | cons {x : α} {y : β} {xs : List α} {ys : List β} : R x y → All2 R xs ys → All2 R (x :: xs) (y :: ys)
theorem All2.length {α β : Type} {R : α → β → Prop} : ∀ {xs : List α} {ys : List β}, All2 R xs ys → xs.length = ys.length
  | _, _, .nil => rfl
  | _, _, .cons _ r => by simp [r.length]
theorem All2.right {α β : Type} {R : α → β → Prop} {P : β → Prop} : ∀ {xs : List α} {ys : List β}, All2 R xs ys → (∀ x ∈ xs, ∀ y, R x y → P y) → ∀ y ∈ ys, P y
  | _, _, .nil, _, y, hy => by cases hy
  | _, _, .cons h r, f, y, hy => (List.mem_cons.mp hy).elim (fun e => by rw [e]; exact f _ List.mem_cons_self _ h) fun hy => r.right (fun x hx => f x (List.mem_cons_of_mem _ hx)) y hy
/-- a comprehension that draws -/
theorem dr_lc {p : Pn} {tg : Tg} {env : Env} {cc : Env → Sto → Rs Bool} {elt : Env → Sto → Rs D} {c1 c2 : Int} {R : D → D → Prop} (h1 : 0 ≤ c1) (h2 : 0 ≤ c2) : ∀ (ds : List D), (∀ d ∈ ds, ∃ env1, bindTg tg d env = some env1 ∧ Dr p c1 (cc env1) (fun _ => True) ∧ Dr p c2 (elt env1) (R d)) →
    Dr p (ds.length * (c1 + c2)) (lcGo tg env cc elt ds) (fun l => ∃ ds', ds'.Sublist ds ∧ All2 R ds' l)
  | [], _ => fun a q ha hq _ => ⟨[], a, q, rfl, by omega, by simp, hq, [], List.Sublist.refl _, .nil⟩
  | d :: ds, h => fun a q ha hq hb => by
    obtain ⟨env1, eb, hc, he⟩ := h d List.mem_cons_self
    have ih := dr_lc h1 h2 ds fun x hx => h x (List.mem_cons_of_mem _ hx)
    have e0 : (((d :: ds).length : Nat) : Int) * (c1 + c2) = (ds.length : Int) * (c1 + c2) + (c1 + c2) := by
      rw [List.length_cons, Int.natCast_add, Int.add_mul]; simp
    rw [e0] at hb ⊢
    have hp : 0 ≤ (ds.length : Int) * (c1 + c2) := Int.mul_nonneg (by omega) (by omega)
    generalize (ds.length : Int) * (c1 + c2) = L at ih hb hp ⊢
    obtain ⟨t, a1, q1, e1, l1, u1, k1, _⟩ := hc a q ha hq (by omega)
    simp only [lcGo, eb, Rs.of_some, Rs.bind_ok, e1]
    cases t with
    | false =>
      obtain ⟨l, a2, q2, e2, l2, u2, k2, ds', s', r'⟩ := ih a1 q1 (by omega) k1 (by omega)
      exact ⟨l, a2, q2, e2, by omega, by omega, k2, ds', s'.cons _, r'⟩
    | true =>
      obtain ⟨x, a2, q2, e2, l2, u2, k2, rx⟩ := he a1 q1 (by omega) k1 (by omega)
      obtain ⟨l, a3, q3, e3, l3, u3, k3, ds', s', r'⟩ := ih a2 q2 (by omega) k2 (by omega)
      refine ⟨x :: l, a3, q3, ?_, by omega, by omega, k3, d :: ds', s'.cons₂ _, .cons rx r'⟩
      show (elt env1 (p.st a1 q1)).bind _ = _
      rw [e2]
      simp only [Rs.bind_ok, e3]
/-- a loop that draws: an invariant by the number of turns done -/
def DrS (p : Pn) (c : Int) (m : Sto → SRs) (P : Env → Prop) : Prop :=
  ∀ a q, 0 ≤ a → 0 ≤ q → a + c ≤ big → ∃ e a' q', m (p.st a q) = .nx e (p.st a' q') ∧ a ≤ a' ∧ a' ≤ a + c ∧ 0 ≤ q' ∧ P e
theorem dr_for {p : Pn} {tg : Tg} {body : Env → Sto → SRs} {c : Int} {I : Nat → Env → Prop} (hc : 0 ≤ c) : ∀ (ds : List D) (j : Nat) (env : Env), I j env → (∀ (k : Nat) (d : D) (env : Env), ds[k]? = some d → I (j + k) env → ∃ env1, bindTg tg d env = some env1 ∧ DrS p c (body env1) (I (j + k + 1))) →
    DrS p (ds.length * c) (forGo tg body ds env) (I (j + ds.length))
  | [], j, env, hI, _ => fun a q ha hq _ => ⟨env, a, q, rfl, by omega, by simp, hq, hI⟩
  | d :: ds, j, env, hI, h => fun a q ha hq hb => by
    obtain ⟨env1, eb, hbody⟩ := h 0 d env rfl hI
    have e0 : (((d :: ds).length : Nat) : Int) * c = (ds.length : Int) * c + c := by
      rw [List.length_cons, Int.natCast_add, Int.add_mul]; simp
    rw [e0] at hb ⊢
    have hp : 0 ≤ (ds.length : Int) * c := Int.mul_nonneg (by omega) hc
    obtain ⟨e1, a1, q1, f1, l1, u1, k1, i1⟩ := hbody a q ha hq (by omega)
    have ih := dr_for (I := I) hc ds (j + 1) e1 i1 fun k d' env' hk hI' => by
      have := h (k + 1) d' env' (by simpa using hk) (by rw [show j + (k + 1) = j + 1 + k by omega]; exact hI')
      rw [show j + (k + 1) + 1 = j + 1 + k + 1 by omega] at this
      exact this
    obtain ⟨e2, a2, q2, f2, l2, u2, k2, i2⟩ := ih a1 q1 (by omega) k1 (by omega)
    refine ⟨e2, a2, q2, ?_, by omega, by omega, k2, by rw [List.length_cons, show j + (ds.length + 1) = j + 1 + ds.length by omega]; exact i2⟩
    simp only [forGo, eb, Rs.of_some, Rs.bindS_ok, f1]
    exact f2
end Ms

set_option Elab.async false
set_option linter.all false
set_option autoImplicit false
set_option maxRecDepth 100000
set_option maxHeartbeats 4000000
namespace Ms
/-! ## Law 81: the decks of one master and one slide -/
def signs : List Nat := match G 5 with
  | .str s => s
  | _ => []
theorem G_5 : G 5 = .str signs := by kernel_rfl
def slide1 (h : Int) (n : List Nat) : D := .tup [.str [97], .str [109], .tup [], .tup [], .tup [], .tup [], .int h, .str n]
def deck1 (h : Int) (n : List Nat) : D := .tup [.tup [.tup [.str [109], .non, .tup []]], .tup [slide1 h n]]
def W (n : List Nat) : Prop := n.length ≤ 200 ∧ ∀ c ∈ n, c ∈ signs
theorem tw_all {p : Nat → Bool} : ∀ {s : List Nat}, (∀ c ∈ s, p c = true) → s.takeWhile p = s
  | [], _ => rfl
  | c :: r, h => by
    rw [List.takeWhile_cons, h c List.mem_cons_self, if_pos rfl, tw_all fun x hx => h x (List.mem_cons_of_mem _ hx)]
theorem stripC_all {cs s : List Nat} (h : ∀ c ∈ s, c ∈ cs) : stripC cs s = [] := by
  have e : s.takeWhile (fun c => cs.contains c) = s := by
    have : ∀ c ∈ s, (fun c => cs.contains c) c = true := fun c hc => by simpa using h c hc
    exact tw_all this
  unfold stripC
  rw [e]
  simp
theorem written_ok (k : Nat) (s : Sto) {n : List Nat} (h : W n) : callK G T (k + 1) n_is_written [.str n, .int 200] s = .ok (.bl true) s := by
  rw [call_eq T_is_written rfl]
  have h1 : n.length ≤ lim := Nat.le_trans h.1 (by decide)
  have h2 : (n.length : Int) ≤ 200 := by exact_mod_cast h.1
  simp [runB, F_is_written, startE, isTy, truthR, truth, b1, h1, h2, cmpop, meth, G_5, stripC_all h.2, pyEq, okEq]
theorem slide_ok (k : Nat) (s : Sto) {h : Int} {n : List Nat} (hh : h = 0 ∨ h = 1) (hn : W n) : callK G T (k + 8) n_is_slide [slide1 h n] s = .ok (.bl true) s := by
  rw [call_eq T_is_slide rfl]
  have e1 : ∀ x, x = [97] ∨ x = [109] → callK G T (k + 7) 3 [.str x] s = .ok (.bl true) s := by
    rintro x (rfl | rfl)
    · kernel_rfl
    · kernel_rfl
  have e2 : callK G T (k + 7) 32 [.tup []] s = .ok (.bl true) s := by kernel_rfl
  have e3 : callK G T (k + 7) 34 [.tup []] s = .ok (.bl true) s := by kernel_rfl
  have e4 : callK G T (k + 7) 36 [.tup []] s = .ok (.bl true) s := by kernel_rfl
  have e5 : callK G T (k + 7) 39 [.tup []] s = .ok (.bl true) s := by kernel_rfl
  have e6 : callK G T (k + 7) 1 [.int h] s = .ok (.bl true) s := by kernel_rfl
  have e7 := written_ok (k + 6) s hn
  have g15 : G 15 = .int 200 := by kernel_rfl
  have e8 : isIn (.int h) (.tup [.int 0, .int 1]) = some true := by
    rcases hh with rfl | rfl <;> rfl
  simp [runB, F_is_slide, slide1, startE, isTy, truthR, truth, b1, cmpop, pyEq, okEq, index, atIx, ixPos, unpS, setAll, e1, e2, e3, e4, e5, e6, e7, g15, e8, lim]
theorem fault_slides_ok (k : Nat) (s : Sto) {h : Int} {n : List Nat} (hh : h = 0 ∨ h = 1) (hn : W n) : callK G T (k + 10) n_fault_of_slides [.tup [.tup [.str [109], .non, .tup []]], .tup [slide1 h n]] s = .ok .non s := by
  rw [call_eq T_fault_of_slides rfl]
  have e1 := slide_ok (k + 1) s hh hn
  have e2 : callK G T (k + 9) 42 [slide1 h n, .lst [.str [97]]] s = .ok (.bl false) s := by kernel_rfl
  unfold slide1 at e1 e2 ⊢
  simp [runB, F_fault_of_slides, startE, isTy, truthR, truth, b1, cmpop, pyEq, okEq, index, atIx, ixPos, getAll, fwGo, midInt, noEx, e1, e2, lim, seqIt, lcGo, bindTg, wipeE, frzE, sliceL, cut, bnd, optInt, isIn, memD]
theorem fault_ok (k : Nat) (s : Sto) {h : Int} {n : List Nat} (hh : h = 0 ∨ h = 1) (hn : W n) : callK G T (k + 12) n_fault_of [deck1 h n] s = .ok .non s := by
  rw [call_eq T_fault_of rfl]
  have e1 := fault_slides_ok (k + 1) s hh hn
  have e2 : callK G T (k + 11) 43 [.tup [.tup [.str [109], .non, .tup []]]] s = .ok .non s := by kernel_rfl
  have g24 : G 24 = .int 12 := by kernel_rfl
  have g11 : G 11 = .int 40 := by kernel_rfl
  unfold deck1
  simp [runB, F_fault_of, startE, isTy, truthR, truth, b1, cmpop, unpS, setAll, e1, e2, g24, g11, pyEq, okEq]
theorem must_ok (k : Nat) (s : Sto) {h : Int} {n : List Nat} (hh : h = 0 ∨ h = 1) (hn : W n) : callK G T (k + 13) n_must_be_deck [deck1 h n] s = .ok .non s := by
  rw [call_eq T_must_be_deck rfl]
  have e1 := fault_ok k s hh hn
  simp [runB, F_must_be_deck, startE, truthR, truth, e1]
end Ms

set_option Elab.async false
set_option linter.all false
set_option autoImplicit false
set_option maxRecDepth 100000
set_option maxHeartbeats 4000000
namespace Ms
/-! ## What is a name, lines, a worth, settings, a place -/
def ltrs : List Nat := match G 3 with
  | .str s => s
  | _ => []
def fgs : List Nat := match G 4 with
  | .str s => s
  | _ => []
theorem G_3 : G 3 = .str ltrs := by kernel_rfl
theorem G_4 : G 4 = .str fgs := by kernel_rfl
theorem G_6 : G 6 = .int 8 := by kernel_rfl
theorem G_7 : G 7 = .int 60 := by kernel_rfl
theorem G_8 : G 8 = .int 12 := by kernel_rfl
theorem G_10 : G 10 = .int 8 := by kernel_rfl
/-- a comprehension that draws nothing -/
theorem lc_map {α : Type} {tg : Tg} {env : Env} {cc : Env → Sto → Rs Bool} {elt : Env → Sto → Rs D} {s : Sto} (g f : α → D) : ∀ (xs : List α), (∀ x ∈ xs, ∃ e1, bindTg tg (g x) env = some e1 ∧ cc e1 s = .ok true s ∧ elt e1 s = .ok (f x) s) →
    lcGo tg env cc elt (xs.map g) s = .ok (xs.map f) s
  | [], _ => rfl
  | x :: xs, h => by
    obtain ⟨e1, h1, h2, h3⟩ := h x List.mem_cons_self
    have ih := lc_map g f xs fun y hy => h y (List.mem_cons_of_mem _ hy)
    simp only [List.map_cons, lcGo, h1, h2, h3, ih, Rs.of_some, Rs.bind_ok]
theorem lc_mapD {tg : Tg} {env : Env} {cc : Env → Sto → Rs Bool} {elt : Env → Sto → Rs D} {s : Sto} (f : D → D) (xs : List D) (h : ∀ x ∈ xs, ∃ e1, bindTg tg x env = some e1 ∧ cc e1 s = .ok true s ∧ elt e1 s = .ok (f x) s) :
    lcGo tg env cc elt xs s = .ok (xs.map f) s := by
  have := lc_map (tg := tg) (env := env) (cc := cc) (elt := elt) (s := s) id f xs h
  rwa [List.map_id] at this
theorem boolsOf_map {α : Type} (f : α → Bool) : ∀ (xs : List α), boolsOf (xs.map fun x => .bl (f x)) = some (xs.map f)
  | [] => rfl
  | x :: xs => by simp only [List.map_cons, boolsOf, boolsOf_map f xs, Option.map_some]
theorem all_map {α : Type} (f : α → Bool) (xs : List α) : b1 .all (.lst (xs.map fun x => .bl (f x))) = some (.bl (xs.all f)) := by
  simp only [b1, boolsOf_map, Option.map_some, List.all_map]
  rfl
theorem any_map {α : Type} (f : α → Bool) (xs : List α) : b1 .any (.lst (xs.map fun x => .bl (f x))) = some (.bl (xs.any f)) := by
  simp only [b1, boolsOf_map, Option.map_some, List.any_map]
  rfl
/-- names -/
def nameB (x : List Nat) : Bool := decide (1 ≤ x.length) && (decide (x.length ≤ 8) && (ltrs.contains (x.headD 0) && x.all fun c => ltrs.contains c || fgs.contains c))
theorem index_str0 {x : List Nat} (hx : x.length ≤ lim) (h : 1 ≤ x.length) : index (.str x) (.int 0) = some (.str [x.headD 0]) := by
  cases x with
  | nil => simp at h
  | cons c r =>
    have hh : decide ((c :: r).length ≤ lim) = true := decide_eq_true hx
    simp only [index, hh]
    rw [ix_lt _ _ (by omega) (by simp)]
    rfl
theorem name_lc (C : Calls) (s : Sto) (v : Slot) (x : List Nat) : lcGo (.name 1) [v, .non] (evC C G .none) (evE C G (.or (.cmp .isin (.v 1) (.g 3)) (.cmp .isin (.v 1) (.g 4)))) (x.map fun c => .str [c]) s = .ok (x.map fun c => .bl (ltrs.contains c || fgs.contains c)) s := by
  refine lc_map _ _ _ fun y _ => ⟨_, rfl, by simp, ?_⟩
  cases h : ltrs.contains y <;> simp [cmpop, isIn, G_3, G_4, truthR, truth, h, -List.contains_eq_mem]
theorem name_eval (k : Nat) (s : Sto) {x : List Nat} (hx : x.length ≤ lim) : callK G T (k + 1) n_is_name [.str x] s = .ok (.bl (nameB x)) s := by
  rw [call_eq T_is_name rfl]
  by_cases h1 : 1 ≤ x.length
  · have e1 := index_str0 hx h1
    have hlc := name_lc (callK G T k) s (.val (.str x)) x
    have i1 : (1 : Int) ≤ (x.length : Int) := by exact_mod_cast h1
    by_cases h8 : x.length ≤ 8
    · have h2 : (x.length : Int) ≤ 8 := by exact_mod_cast h8
      cases h3 : ltrs.contains (x.headD 0) with
      | false =>
        have : nameB x = false := by simp only [nameB, h3]; simp
        rw [this]
        simp [runB, F_is_name, startE, isTy, truthR, truth, b1, cmpop, G_3, G_6, i1, h2, hx, e1, isIn, h3, -List.contains_eq_mem, -List.headD_eq_head?_getD]
      | true =>
        have : nameB x = (x.all fun c => ltrs.contains c || fgs.contains c) := by
          simp only [nameB, h3, Bool.true_and]
          rw [decide_eq_true h8, decide_eq_true h1]; rfl
        rw [this]
        have ha := all_map (fun c => ltrs.contains c || fgs.contains c) x
        have hb : ∀ i : Int, (b1 .len (.str x)) = some (.int x.length) := fun _ => by simp [b1, hx]
        simp [runB, F_is_name, startE, isTy, truthR, truth, cmpop, G_3, G_6, i1, h2, hx, e1, isIn, h3, seqIt, hb 0, ha, hlc, noEx, wipeE, -List.contains_eq_mem, -List.headD_eq_head?_getD]
    · have h2 : ¬ (x.length : Int) ≤ 8 := by exact_mod_cast h8
      have : nameB x = false := by simp only [nameB, decide_eq_false h8]; simp
      rw [this]
      simp [runB, F_is_name, startE, isTy, truthR, truth, b1, cmpop, G_3, G_6, i1, h2, hx]
  · have i1 : ¬ (1 : Int) ≤ (x.length : Int) := by exact_mod_cast h1
    have : nameB x = false := by simp only [nameB, decide_eq_false h1]; simp
    rw [this]
    simp [runB, F_is_name, startE, isTy, truthR, truth, b1, cmpop, G_3, G_6, i1, hx]
end Ms

set_option Elab.async false
set_option linter.all false
set_option autoImplicit false
set_option maxRecDepth 100000
set_option maxHeartbeats 4000000
namespace Ms
/-! ## Good values: names, lines, worths -/
def GName (d : D) : Prop := ∃ x, d = .str x ∧ nameB x = true
theorem nameB_len {x : List Nat} (h : nameB x = true) : x.length ≤ 8 := by
  simp only [nameB, Bool.and_eq_true, decide_eq_true_eq] at h
  exact h.2.1
theorem nameB_lim {x : List Nat} (h : nameB x = true) : x.length ≤ lim := Nat.le_trans (nameB_len h) (by decide)
theorem name_true (k : Nat) (s : Sto) {d : D} (h : GName d) : callK G T (k + 1) n_is_name [d] s = .ok (.bl true) s := by
  obtain ⟨x, rfl, hx⟩ := h
  rw [name_eval k s (nameB_lim hx), hx]
/-- texts of the signs of lines, at most so long -/
def GWrit (m : Nat) (d : D) : Prop := ∃ x, d = .str x ∧ x.length ≤ m ∧ ∀ c ∈ x, c ∈ signs
theorem writ_true (k : Nat) (s : Sto) {m : Nat} (hm : m ≤ 1000) {d : D} (h : GWrit m d) : callK G T (k + 1) n_is_written [d, .int m] s = .ok (.bl true) s := by
  obtain ⟨n, rfl, h1, h2⟩ := h
  rw [call_eq T_is_written rfl]
  have h3 : n.length ≤ lim := Nat.le_trans (Nat.le_trans h1 hm) (by decide)
  have h4 : (n.length : Int) ≤ (m : Int) := by exact_mod_cast h1
  simp [runB, F_is_written, startE, isTy, truthR, truth, b1, h3, h4, cmpop, meth, G_5, stripC_all h2, pyEq, okEq]
def GLines (d : D) : Prop := ∃ l, d = .tup l ∧ l.length ≤ 12 ∧ ∀ y ∈ l, GWrit 60 y
theorem all_true (n : Nat) : ∀ {l : List D}, l = List.replicate n (.bl true) → b1 .all (.lst l) = some (.bl true) := by
  intro l h
  have e : l = (List.range n).map fun _ => D.bl true := by rw [h]; simp [List.map_const']
  rw [e, all_map]
  simp
theorem lc_true {tg : Tg} {env : Env} {cc : Env → Sto → Rs Bool} {elt : Env → Sto → Rs D} {s : Sto} (xs : List D) (h : ∀ x ∈ xs, ∃ e1, bindTg tg x env = some e1 ∧ cc e1 s = .ok true s ∧ elt e1 s = .ok (.bl true) s) :
    lcGo tg env cc elt xs s = .ok (List.replicate xs.length (.bl true)) s := by
  rw [lc_mapD (fun _ => .bl true) xs h, List.map_const']
theorem lines_true (k : Nat) (s : Sto) {d : D} (h : GLines d) : callK G T (k + 2) n_is_lines [d] s = .ok (.bl true) s := by
  obtain ⟨l, rfl, h1, h2⟩ := h
  rw [call_eq T_is_lines rfl]
  have hl : l.length ≤ lim := Nat.le_trans h1 (by decide)
  have h4 : ¬ (12 : Int) < (l.length : Int) := by
    have : (l.length : Int) ≤ 12 := by exact_mod_cast h1
    omega
  have hlc : lcGo (.name 1) [.val (.tup l), .non] (evC (callK G T (k + 1)) G .none) (evE (callK G T (k + 1)) G (.call 5 (.cons (.v 1) (.cons (.g 7) .nil)))) l s = .ok (List.replicate l.length (.bl true)) s := by
    refine lc_true _ fun y hy => ⟨_, rfl, by simp, ?_⟩
    have := writ_true k s (m := 60) (by decide) (h2 y hy)
    simpa [G_7] using this
  have ha := all_true l.length rfl
  have hb : b1 .len (.tup l) = some (.int l.length) := rfl
  simp [runB, F_is_lines, startE, isTy, truthR, truth, hb, h4, hl, cmpop, G_8, seqIt, wipeE, hlc, noEx, ha]
/-! ### worths -/
def tr (j : Nat) : D := .str (match j with
  | 0 => [108, 101, 102, 116]
  | 1 => [116, 111, 112]
  | 2 => [119, 105, 100, 101]
  | 3 => [104, 105, 103, 104]
  | 4 => [115, 105, 122, 101]
  | _ => [105, 110, 107])
def loT (j : Nat) : Int := if j < 2 then -999 else 1
def hiT (j : Nat) : Int := if j = 4 then 99 else 999
def GWorth (j : Nat) (d : D) : Prop := (j < 5 ∧ ∃ i : Int, d = .int i ∧ loT j ≤ i ∧ i ≤ hiT j) ∨ (j = 5 ∧ GName d)
theorem from_true (k : Nat) (s : Sto) {i lo hi : Int} (h1 : lo ≤ i) (h2 : i ≤ hi) : callK G T (k + 2) n_is_from [.int i, .int lo, .int hi] s = .ok (.bl true) s := by
  rw [call_eq T_is_from rfl]
  have e1 : callK G T (k + 1) 1 [.int i] s = .ok (.bl true) s := by kernel_rfl
  simp [runB, F_is_from, startE, truthR, truth, e1, cmpop, h1, h2]
theorem trait_true (k : Nat) (s : Sto) {j : Nat} (hj : j < 6) : callK G T (k + 1) n_is_trait [tr j] s = .ok (.bl true) s := by
  rcases (by omega : j = 0 ∨ j = 1 ∨ j = 2 ∨ j = 3 ∨ j = 4 ∨ j = 5) with rfl | rfl | rfl | rfl | rfl | rfl <;> kernel_rfl
theorem must_trait (k : Nat) (s : Sto) {j : Nat} (hj : j < 6) : callK G T (k + 2) n_must_be_trait [tr j] s = .ok .non s := by
  rcases (by omega : j = 0 ∨ j = 1 ∨ j = 2 ∨ j = 3 ∨ j = 4 ∨ j = 5) with rfl | rfl | rfl | rfl | rfl | rfl <;> kernel_rfl
theorem worth_true (k : Nat) (s : Sto) {j : Nat} {d : D} (h : GWorth j d) : callK G T (k + 3) n_is_worth [tr j, d] s = .ok (.bl true) s := by
  rw [call_eq T_is_worth rfl]
  rcases h with ⟨hj, i, rfl, h1, h2⟩ | ⟨rfl, h⟩
  · have e1 := must_trait k s (show j < 6 by omega)
    have e2 := from_true k s h1 h2
    have e3 : isIn (tr j) (G 2) = some true := by
      rcases (by omega : j = 0 ∨ j = 1 ∨ j = 2 ∨ j = 3 ∨ j = 4) with rfl | rfl | rfl | rfl | rfl <;> kernel_rfl
    have e4 : index (G 2) (tr j) = some (.tup [.int (loT j), .int (hiT j)]) := by
      rcases (by omega : j = 0 ∨ j = 1 ∨ j = 2 ∨ j = 3 ∨ j = 4) with rfl | rfl | rfl | rfl | rfl <;> kernel_rfl
    have d2 : der s (G 2) = G 2 := by kernel_rfl
    have dj : der s (tr j) = tr j := rfl
    simp [runB, F_is_worth, startE, truthR, truth, e1, cmpop, e2, e3, d2, dj, e4, index_0, index_1]
  · have e1 := must_trait k s (show 5 < 6 by omega)
    have e2 := name_true (k + 1) s h
    have e3 : isIn (tr 5) (G 2) = some false := by kernel_rfl
    have d2 : der s (G 2) = G 2 := by kernel_rfl
    have dj : der s (tr 5) = tr 5 := rfl
    simp [runB, F_is_worth, startE, truthR, truth, e1, cmpop, e2, e3, d2, dj]
end Ms

set_option Elab.async false
set_option linter.all false
set_option autoImplicit false
set_option maxRecDepth 100000
set_option maxHeartbeats 4000000
namespace Ms
/-! ## Rising, unlike; settings, places -/
theorem mid_nat {n : Nat} (h : n ≤ 1000000) : midInt (n : Int) = true := by
  generalize hn : (n : Int) = i
  have h0 : i ≤ 1000000 := by omega
  have h1 : 0 ≤ i := by omega
  simp only [midInt, decide_eq_true_eq]
  omega
theorem mid_of {i : Int} (h1 : -1000000 ≤ i) (h2 : i ≤ 1000000) : midInt i = true := by
  simp only [midInt, decide_eq_true_eq]
  omega
theorem rng1_of {i : Int} (h1 : -1000000 ≤ i) (h2 : i ≤ 1000000) : rng1 (.int i) = some (rngL 0 i.toNat) := by
  simp only [rng1, mid_of h1 h2]
theorem rng_mem {n : Nat} {d : D} (h : d ∈ rngL 0 n) : ∃ i : Nat, i < n ∧ d = .int (i : Int) := by
  obtain ⟨i, hi, e⟩ := List.mem_map.mp h
  exact ⟨i, List.mem_range.mp hi, by rw [← e]; simp⟩
theorem rng_len (lo : Int) (n : Nat) : (rngL lo n).length = n := by simp [rngL]
theorem ix_nat {l : List D} {i : Nat} (h : i < l.length) : index (.lst l) (.int (i : Int)) = some l[i] := by
  show atIx _ _ = _
  rw [ix_lt _ _ (by omega) (by omega)]
  simp [h]
theorem ixt_nat {l : List D} {i : Nat} (h : i < l.length) : index (.tup l) (.int (i : Int)) = some l[i] := by
  show atIx _ _ = _
  rw [ix_lt _ _ (by omega) (by omega)]
  simp [h]
theorem rise_true (k : Nat) (s : Sto) {xs : List D} (hl : xs.length ≤ 1000) (h : ∀ i (h : i + 1 < xs.length), cmpop .lt (der s xs[i]) (der s xs[i + 1]) = some true) : callK G T (k + 1) n_rise [.lst xs] s = .ok (.bl true) s := by
  rw [call_eq T_rise rfl]
  obtain ⟨I, hI⟩ : ∃ I : Int, I = (xs.length : Int) := ⟨_, rfl⟩
  obtain ⟨n, hn⟩ : ∃ n, n = (I - 1).toNat := ⟨_, rfl⟩
  have hr : rng1 (.int (I - 1)) = some (rngL 0 (I - 1).toNat) := rng1_of (by omega) (by omega)
  rw [← hn] at hr
  have hll : (rngL 0 n).length ≤ lim := by
    rw [rng_len]
    have : lim = 16777216 := rfl
    omega
  have hlc := lc_true (tg := .name 1) (env := [.val (.lst xs), .non]) (cc := evC (callK G T k) G .none) (elt := evE (callK G T k) G (.cmp .lt (.ix (.v 0) (.v 1)) (.ix (.v 0) (.bin .add (.v 1) (.k (.int 1)))))) (s := s) (rngL 0 n) fun x hx => by
    obtain ⟨i, hi, rfl⟩ := rng_mem hx
    have hi1 : i + 1 < xs.length := by omega
    refine ⟨_, rfl, by simp, ?_⟩
    have e1 := ix_nat (show i < xs.length by omega)
    have e2 := ix_nat hi1
    have e3 := h i hi1
    rw [show ((i + 1 : Nat) : Int) = (i : Int) + 1 by omega] at e2
    simp [binop, e1, e2, e3]
  have ha := all_true (rngL 0 n).length rfl
  have hb : b1 .len (.lst xs) = some (.int I) := by rw [hI]; rfl
  simp [runB, F_rise, startE, hb, binop, hr, hll, wipeE, hlc, noEx, ha]
theorem memD_strs (x : List Nat) : ∀ (l : List (List Nat)), memD (.str x) (l.map .str) = some (decide (x ∈ l))
  | [] => rfl
  | y :: ys => by
    simp only [List.map_cons, memD, flat_str, memD_strs x ys, eqv_str]
    congr 1
    by_cases h : x = y
    · subst h; simp
    · have h' : ¬ (y = x) := fun e => h e.symm
      simp [h, h']
theorem isIn_strs (x : List Nat) (l : List (List Nat)) : isIn (.str x) (.lst (l.map .str)) = some (decide (x ∈ l)) := by
  simp only [isIn, flat_str, memD_strs]
theorem cut_take {α : Type} (l : List α) (i : Nat) (h : i ≤ l.length) : cut l none (some (i : Int)) = l.take i := by
  have h1 : ¬ ((i : Int) < 0) := by omega
  simp only [cut, bnd, h1, if_false, List.drop_zero, Nat.sub_zero, Int.toNat_natCast, Nat.min_eq_left h]
theorem nodup_take {l : List (List Nat)} (h : l.Nodup) {i : Nat} (hi : i < l.length) : l[i] ∉ l.take i := by
  intro hm
  obtain ⟨j, hj, e⟩ := List.mem_take_iff_getElem.mp hm
  have := (List.getElem_inj h).mp e
  omega
theorem runB_rt {C : Calls} {n : Nat} {b : Ss} {ds : List D} {s s' : Sto} {d : D} (h : evSs C G b (startE n ds) s = .rt d s') : runB C G n b ds s = .ok d s' := by
  simp only [runB, h]
theorem unlike_lc (C : Calls) (s : Sto) {l : List (List Nat)} (h : l.Nodup) (n : Nat) (hn : n ≤ l.length) : lcGo (.name 1) [.val (.lst (l.map .str)), .non] (evC C G .none) (evE C G (.cmp .notin (.ix (.v 0) (.v 1)) (.fl (.slc (.v 0) .none (.some (.v 1)))))) (rngL 0 n) s = .ok (List.replicate (rngL 0 n).length (.bl true)) s := by
  refine lc_true _ fun x hx => ?_
  obtain ⟨i, hi, rfl⟩ := rng_mem hx
  have hi2 : i < l.length := by omega
  refine ⟨_, rfl, by simp, ?_⟩
  have e1 := ix_nat (l := l.map D.str) (i := i) (by simpa using hi2)
  rw [List.getElem_map] at e1
  have e2 : cut (l.map D.str) none (some (i : Int)) = (l.take i).map D.str := by
    rw [cut_take _ _ (by simp; omega), List.map_take]
  have e3 := isIn_strs l[i] (l.take i)
  rw [decide_eq_false (nodup_take h hi2)] at e3
  generalize (i : Int) = I at e1 e2 ⊢
  generalize List.map D.str (List.take i l) = L at e2 e3
  obtain ⟨y, hy⟩ : ∃ y, y = l[i] := ⟨_, rfl⟩
  rw [← hy] at e1 e3
  have e4 : sliceL (.lst (l.map D.str)) none (some I) = some L := by show some (cut _ _ _) = _; rw [e2]
  simp [e1, optInt, e4, cmpop, e3]
theorem unlike_true (k : Nat) (s : Sto) {l : List (List Nat)} (hl : l.length ≤ 1000) (h : l.Nodup) : callK G T (k + 1) n_are_unlike [.lst (l.map .str)] s = .ok (.bl true) s := by
  rw [call_eq T_are_unlike rfl]
  obtain ⟨n, hn⟩ : ∃ n, n = l.length := ⟨_, rfl⟩
  obtain ⟨I, hI⟩ : ∃ I : Int, I = (n : Int) := ⟨_, rfl⟩
  have hr : rng1 (.int I) = some (rngL 0 n) := by
    have := rng1_of (i := I) (by omega) (by omega)
    rwa [show I.toNat = n by omega] at this
  have hll : decide ((rngL 0 n).length ≤ lim) = true := by
    refine decide_eq_true ?_
    rw [rng_len]
    have : lim = 16777216 := rfl
    omega
  have hlc := unlike_lc (callK G T k) s h n (by omega)
  have ha := all_true (rngL 0 n).length rfl
  have hb : b1 .len (.lst (l.map D.str)) = some (.int I) := by rw [hI, hn]; simp [b1]
  clear hI hn
  generalize l.map D.str = L at *
  have e0 : evIt (callK G T k) G (.rng1 (.b1 .len (.v 0))) [.val (.lst L), .non] s = .ok (rngL 0 n) s := by simp [hb, hr]
  have e1 : evE (callK G T k) G (.fl (.lc (.cmp .notin (.ix (.v 0) (.v 1)) (.fl (.slc (.v 0) .none (.some (.v 1))))) (.name 1) (.rng1 (.b1 .len (.v 0))) .none [1])) [.val (.lst L), .non] s = .ok (.lst (List.replicate (rngL 0 n).length (.bl true))) s := by
    rw [evE_fl_26, evF_lc_3, e0]
    simp only [Rs.bind_ok, hll]
    simp only [wipeE, List.set_cons_succ, List.set_cons_zero, hlc, noEx, Rs.bind_ok]
  have e2 : evE (callK G T k) G (.b1 .all (.fl (.lc (.cmp .notin (.ix (.v 0) (.v 1)) (.fl (.slc (.v 0) .none (.some (.v 1))))) (.name 1) (.rng1 (.b1 .len (.v 0))) .none [1]))) [.val (.lst L), .non] s = .ok (.bl true) s := by
    rw [evE_b1_16, e1, Rs.bind_ok, der_lst', ha, Rs.of_some]
  clear ha e1 e0 hb hlc hr hll
  have e3 : evSs (callK G T k) G F_are_unlike [.val (.lst L), .non] s = .rt (.bl true) s := by
    unfold F_are_unlike
    rw [evSs_cons_1, evS_ret_14, e2]
    rfl
  exact runB_rt e3
/-! ### settings -/
def setD (q : Nat × D) : D := .tup [tr q.1, q.2]
theorem setting_true (k : Nat) (s : Sto) {q : Nat × D} (h1 : q.1 < 6) (h2 : GWorth q.1 q.2) : callK G T (k + 4) n_is_setting [setD q] s = .ok (.bl true) s := by
  rw [call_eq T_is_setting rfl]
  have e1 := trait_true (k + 2) s h1
  have e2 := worth_true k s h2
  simp [runB, F_is_setting, setD, startE, isTy, truthR, truth, b1, cmpop, pyEq, okEq, index_0, index_1, e1, e2]
theorem tr_index {j : Nat} (h : j < 6) : meth .index (G 0) [tr j] = some (.int j) := by
  rcases (by omega : j = 0 ∨ j = 1 ∨ j = 2 ∨ j = 3 ∨ j = 4 ∨ j = 5) with rfl | rfl | rfl | rfl | rfl | rfl <;> kernel_rfl
theorem inc_len : ∀ (l : List Nat) (a n : Nat), l.Pairwise (· < ·) → (∀ x ∈ l, a ≤ x ∧ x < n) → a ≤ n → l.length + a ≤ n
  | [], a, n, _, _, h => by simpa using h
  | x :: xs, a, n, hp, hb, h => by
    have hx := hb x List.mem_cons_self
    have ih := inc_len xs (x + 1) n (List.pairwise_cons.mp hp).2 (fun y hy => ⟨(List.pairwise_cons.mp hp).1 y hy, (hb y (List.mem_cons_of_mem _ hy)).2⟩) (by omega)
    rw [List.length_cons]
    omega
theorem settings_len {l : List (Nat × D)} (h1 : (l.map Prod.fst).Pairwise (· < ·)) (h2 : ∀ q ∈ l, q.1 < 6) : l.length ≤ 6 := by
  have := inc_len (l.map Prod.fst) 0 6 h1 (fun x hx => by
    obtain ⟨q, hq, rfl⟩ := List.mem_map.mp hx
    exact ⟨by omega, h2 q hq⟩) (by omega)
  simpa using this
theorem settings_true (k : Nat) (s : Sto) {l : List (Nat × D)} (h1 : (l.map Prod.fst).Pairwise (· < ·)) (h2 : ∀ q ∈ l, q.1 < 6 ∧ GWorth q.1 q.2) : callK G T (k + 5) n_are_settings [.tup (l.map setD)] s = .ok (.bl true) s := by
  rw [call_eq T_are_settings rfl]
  have hl := settings_len h1 fun q hq => (h2 q hq).1
  have hll : (l.map setD).length ≤ lim := by
    rw [List.length_map]
    have : lim = 16777216 := rfl
    omega
  have c1 := lc_true (tg := .name 1) (env := [.val (.tup (l.map setD)), .non]) (cc := evC (callK G T (k + 4)) G .none) (elt := evE (callK G T (k + 4)) G (.call 11 (.cons (.v 1) .nil))) (s := s) (l.map setD) fun x hx => by
    obtain ⟨q, hq, rfl⟩ := List.mem_map.mp hx
    refine ⟨_, rfl, by simp, ?_⟩
    have := setting_true k s (h2 q hq).1 (h2 q hq).2
    simpa using this
  have c2 := lc_map (tg := .name 1) (env := [.val (.tup (l.map setD)), .non]) (cc := evC (callK G T (k + 4)) G .none) (elt := evE (callK G T (k + 4)) G (.m .index (.g 0) (.cons (.ix (.v 1) (.k (.int 0))) .nil))) (s := s) setD (fun q => .int (q.1 : Int)) l fun q hq => by
    refine ⟨_, rfl, by simp, ?_⟩
    have e := tr_index (h2 q hq).1
    have d0 : der s (G 0) = G 0 := by kernel_rfl
    have dj : der s (tr q.1) = tr q.1 := rfl
    simp [setD, index_0, d0, dj, e]
  have e3 := rise_true (k + 3) s (xs := l.map fun q => .int (q.1 : Int)) (by simp; omega) fun i hi => by
    simp only [List.length_map] at hi
    simp only [List.getElem_map, der_int', cmpop]
    have := List.pairwise_iff_getElem.mp h1 i (i + 1) (by simp; omega) (by simpa using hi) (by omega)
    simp only [List.getElem_map] at this
    rw [decide_eq_true (by omega)]
  have ha := all_true (l.map setD).length rfl
  simp [runB, F_are_settings, startE, isTy, truthR, truth, seqIt, wipeE, hll, c1, c2, noEx, ha, e3, -List.length_map]
end Ms

set_option Elab.async false
set_option linter.all false
set_option autoImplicit false
set_option maxRecDepth 100000
set_option maxHeartbeats 4000000
namespace Ms
/-! ## Places, masters -/
theorem ss_ret {C : Calls} {a : E} {r : Ss} {e : Env} {s s' : Sto} {d : D} (h : evE C G a e s = .ok d s') : evSs C G (.cons (.ret a) r) e s = .rt d s' := by
  rw [evSs_cons_1, evS_ret_14, h]; rfl
theorem ss_set {C : Calls} {a : E} {i : Nat} {r : Ss} {e : Env} {s s' : Sto} {d : D} (h : evE C G a e s = .ok d s') : evSs C G (.cons (.set i a) r) e s = evSs C G r (e.set i (.val d)) s' := by
  rw [evSs_cons_1, evS_set_0, h]; rfl
theorem ss_if {C : Calls} {c : E} {t f r : Ss} {e : Env} {s s' : Sto} {d : D} {b : Bool} (h : evE C G c e s = .ok d s') (hb : truthR d s' = .ok b s') : evSs C G (.cons (.ifs c t f) r) e s = (if b then evSs C G t e s' else evSs C G f e s').bind fun e s => evSs C G r e s := by
  rw [evSs_cons_1, evS_ifs_16, h, Rs.bindS_ok, hb, Rs.bindS_ok]
  cases b <;> rfl
theorem vtruth_bl (b : Bool) (s : Sto) : truthR (.bl b) s = .ok b s := rfl
/-- .. goes by -/
theorem ss_skip {C : Calls} {c : E} {t r : Ss} {e : Env} {s s' : Sto} (h : evE C G c e s = .ok (.bl false) s') : evSs C G (.cons (.ifs c t .nil) r) e s = evSs C G r e s' := by
  rw [ss_if h (vtruth_bl false s')]; rfl
theorem ss_take {C : Calls} {c : E} {t f r : Ss} {e : Env} {s s' : Sto} (h : evE C G c e s = .ok (.bl true) s') : evSs C G (.cons (.ifs c t f) r) e s = (evSs C G t e s').bind fun e s => evSs C G r e s := by
  rw [ss_if h (vtruth_bl true s')]; rfl
theorem fl_lc {C : Calls} {elt : E} {tg : Tg} {it : Src} {c : Oe} {own : List Nat} {e : Env} {s : Sto} {ds l : List D} (h : evIt C G it e s = .ok ds s) (hl : ds.length ≤ lim) (hg : lcGo tg (wipeE e own) (evC C G c) (evE C G elt) ds s = .ok l s) : evE C G (.fl (.lc elt tg it c own)) e s = .ok (.lst l) s := by
  rw [evE_fl_26, evF_lc_3, h]
  simp only [Rs.bind_ok, decide_eq_true hl]
  rw [hg]
  rfl
theorem all_lc {C : Calls} {elt : E} {tg : Tg} {it : Src} {own : List Nat} {e : Env} {s : Sto} {ds : List D} (h : evIt C G it e s = .ok ds s) (hl : ds.length ≤ lim) (hg : ∀ x ∈ ds, ∃ e1, bindTg tg x (wipeE e own) = some e1 ∧ evE C G elt e1 s = .ok (.bl true) s) : evE C G (.b1 .all (.fl (.lc elt tg it .none own))) e s = .ok (.bl true) s := by
  rw [evE_b1_16, fl_lc h hl (lc_true ds fun x hx => by
    obtain ⟨e1, h1, h2⟩ := hg x hx
    exact ⟨e1, h1, by simp, h2⟩), Rs.bind_ok, der_lst', all_true _ rfl, Rs.of_some]
theorem le_lim {n m : Nat} (h : n ≤ m) (hm : m ≤ 16777216) : n ≤ lim := Nat.le_trans h hm
theorem ss_unp {C : Calls} {a : E} {is : List Nat} {ds : List D} {r : Ss} {e e' : Env} {s s' : Sto} (h : evE C G a e s = .ok (.tup ds) s') (hs : setAll is ds e = some e') : evSs C G (.cons (.unp is a) r) e s = evSs C G r e' s' := by
  rw [evSs_cons_1, evS_unp_2, h, Rs.bindS_ok]
  simp only [unpS, hs, Rs.of_some, Rs.bindS_ok, SRs.bind_nx]
theorem ev_call1 {C : Calls} {f : Nat} {a : E} {e : Env} {s s' : Sto} {d : D} (h : evE C G a e s = .ok d s') : evE C G (.call f (.cons a .nil)) e s = C f [d] s' := by
  rw [evE_call_13, evEs_cons_1, h, Rs.bind_ok, evEs_nil_0, Rs.bind_ok, Rs.bind_ok]
theorem ev_call2 {C : Calls} {f : Nat} {a b : E} {e : Env} {s s' s2 : Sto} {d d2 : D} (h : evE C G a e s = .ok d s') (h2 : evE C G b e s' = .ok d2 s2) : evE C G (.call f (.cons a (.cons b .nil))) e s = C f [d, d2] s2 := by
  rw [evE_call_13, evEs_cons_1, h, Rs.bind_ok, evEs_cons_1, h2, Rs.bind_ok, evEs_nil_0, Rs.bind_ok, Rs.bind_ok, Rs.bind_ok]
structure Pl where
  nm : List Nat
  st : List (Nat × D)
  ln : D
def Pl.d (p : Pl) : D := .tup [.str p.nm, .tup (p.st.map setD), p.ln]
structure Pl.ok (p : Pl) : Prop where
  nm : nameB p.nm = true
  inc : (p.st.map Prod.fst).Pairwise (· < ·)
  st : ∀ q ∈ p.st, q.1 < 6 ∧ GWorth q.1 q.2
  ln : p.ln = .non ∨ GLines p.ln
theorem place_true (k : Nat) (s : Sto) {p : Pl} (h : p.ok) : callK G T (k + 6) n_is_place [p.d] s = .ok (.bl true) s := by
  rw [call_eq T_is_place rfl]
  have e1 := name_true (k + 4) s ⟨p.nm, rfl, h.nm⟩
  have e2 := settings_true k s h.inc h.st
  have e3 : p.ln = .non ∨ (p.ln.isNon = false ∧ callK G T (k + 5) 6 [p.ln] s = .ok (.bl true) s) := by
    rcases h.ln with h | h
    · exact .inl h
    · refine .inr ⟨?_, lines_true (k + 3) s h⟩
      obtain ⟨l, e, _⟩ := h
      rw [e]; rfl
  apply runB_rt
  unfold F_is_place Pl.d
  rw [ss_skip (s' := s)]
  · apply ss_ret
    rcases e3 with e3 | ⟨e3, e4⟩
    · simp [startE, index_2, e3, truthR, truth]
    · simp [startE, index_2, e3, e4, truthR, truth]
  · simp [startE, isTy, truthR, truth, b1, cmpop, pyEq, okEq, index_0, index_1, e1, e2]
/-! ### masters -/
def ovD : Option (List Nat) → D
  | some o => .str o
  | none => .non
structure Ma where
  nm : List Nat
  ov : Option (List Nat)
  own : List Pl
def Ma.d (m : Ma) : D := .tup [.str m.nm, ovD m.ov, .tup (m.own.map Pl.d)]
structure Ma.ok (m : Ma) : Prop where
  nm : nameB m.nm = true
  ov : ∀ o, m.ov = some o → nameB o = true
  len : m.own.length ≤ 8
  own : ∀ p ∈ m.own, p.ok
  nod : (m.own.map Pl.nm).Nodup
theorem master_true (k : Nat) (s : Sto) {m : Ma} (h : m.ok) : callK G T (k + 7) n_is_master [m.d] s = .ok (.bl true) s := by
  rw [call_eq T_is_master rfl]
  have e1 := name_true (k + 5) s ⟨m.nm, rfl, h.nm⟩
  have e2 : ovD m.ov = .non ∨ ((ovD m.ov).isNon = false ∧ callK G T (k + 6) 3 [ovD m.ov] s = .ok (.bl true) s) := by
    cases hv : m.ov with
    | none => exact .inl rfl
    | some o => exact .inr ⟨rfl, name_true (k + 5) s ⟨o, rfl, h.ov o hv⟩⟩
  have hl : (m.own.map Pl.d).length ≤ lim := le_lim (m := 8) (by rw [List.length_map]; exact h.len) (by decide)
  have hu := unlike_true (k + 5) s (l := m.own.map Pl.nm) (by rw [List.length_map]; have := h.len; omega) h.nod
  have n8 : ¬ (8 : Int) < ((m.own.map Pl.d).length : Int) := by
    have := h.len
    rw [List.length_map]
    omega
  apply runB_rt
  unfold F_is_master
  obtain ⟨L, hL⟩ : ∃ L, L = m.own.map Pl.d := ⟨_, rfl⟩
  have hm : m.d = .tup [.str m.nm, ovD m.ov, .tup L] := by rw [hL]; rfl
  rw [hm]
  rw [← hL] at hl n8
  obtain ⟨e, he⟩ : ∃ e : Env, e = [.val (.tup [.str m.nm, ovD m.ov, .tup L]), .val (.str m.nm), .val (ovD m.ov), .val (.tup L), .non] := ⟨_, rfl⟩
  rw [ss_skip (s' := s) (by simp [startE, isTy, truthR, truth, b1, cmpop, pyEq, okEq, index_0, e1])]
  rw [ss_unp (s' := s) (ds := [.str m.nm, ovD m.ov, .tup L]) (e' := e) (by simp [startE]) (by rw [he]; rfl)]
  rw [ss_skip (s' := s), ss_skip (s' := s)]
  · apply ss_ret
    have c1 : evE (callK G T (k + 6)) G (.fl (.lc (.ix (.v 4) (.k (.int 0))) (.name 4) (.seq (.v 3)) .none [4])) e s = .ok (.lst ((m.own.map Pl.nm).map .str)) s := by
      refine fl_lc (ds := L) (by rw [he]; simp [seqIt]) hl ?_
      rw [hL, List.map_map]
      refine lc_map _ _ _ fun p hp => ⟨_, rfl, by simp, ?_⟩
      simp [he, wipeE, Pl.d, index_0]
    rw [ev_call1 c1]
    exact hu
  · have c1 : evE (callK G T (k + 6)) G (.b1 .all (.fl (.lc (.call 14 (.cons (.v 4) .nil)) (.name 4) (.seq (.v 3)) .none [4]))) e s = .ok (.bl true) s := by
      refine all_lc (ds := L) (by rw [he]; simp [seqIt]) hl fun x hx => ?_
      rw [hL] at hx
      obtain ⟨p, hp, rfl⟩ := List.mem_map.mp hx
      refine ⟨_, rfl, ?_⟩
      have := place_true k s (h.own p hp)
      simpa [he, wipeE] using this
    have c0 : evE (callK G T (k + 6)) G (.isin (.v 3) .tup) e s = .ok (.bl true) s := by rw [he]; simp [isTy]
    have c2 : evE (callK G T (k + 6)) G (.cmp .gt (.b1 .len (.v 3)) (.g 10)) e s = .ok (.bl false) s := by
      rw [he]
      have hb : b1 .len (.tup L) = some (.int L.length) := rfl
      simp [hb, G_10, cmpop, n8]
    rw [evE_or_10, evE_not_11, c0]
    simp only [Rs.bind_ok, vtruth_bl, evE_or_10, c2, evE_not_11, c1]
    rfl
  · rcases e2 with e2 | ⟨e2, e3⟩
    · rw [he]; simp [e2, truthR, truth]
    · rw [he]; simp [e2, e3, truthR, truth]
end Ms

set_option Elab.async false
set_option linter.all false
set_option autoImplicit false
set_option maxRecDepth 100000
set_option maxHeartbeats 4000000
namespace Ms
/-! ## Masters together -/
theorem fwGo_none {p : Nat → Sto → Rs Bool} {s : Sto} : ∀ (n k : Nat), (∀ i, k ≤ i → i < k + n → p i s = .ok false s) → fwGo p k n s = .ok .non s
  | 0, _, _ => rfl
  | n + 1, k, h => by
    rw [fwGo, h k (Nat.le_refl k) (by omega), Rs.bind_ok]
    exact fwGo_none n (k + 1) fun i h1 h2 => h i (by omega) (by omega)
theorem fw_none {C : Calls} {a b : E} {caps : List Nat} {nl : Nat} {e : Env} {s : Sto} {x : D} {n : Nat} {vs : List D} (h : evE C G a e s = .ok x s) (hb : b1 .len (der s x) = some (.int (n : Int))) (hn : n ≤ 1000000) (hv : getAll caps e = some vs) (hf : ∀ i, i < n → evE C G b (startE nl (.int (i : Int) :: vs)) s = .ok (.bl false) s) : evE C G (.fw a caps nl b) e s = .ok .non s := by
  obtain ⟨I, hI⟩ : ∃ I : Int, I = (n : Int) := ⟨_, rfl⟩
  rw [← hI] at hb
  have hm : midInt I = true := mid_of (by omega) (by omega)
  have hk : I.toNat = n := by omega
  clear hI
  rw [evE_fw_27, h, Rs.bind_ok, hb, Rs.of_some, Rs.bind_ok, hv, Rs.of_some, Rs.bind_ok]
  simp only [hm]
  rw [hk, fwGo_none n 0 fun i _ hi => by
    show (evE C G b (startE nl (.int (i : Int) :: vs)) s).bind truthR = _
    rw [hf i (by omega), Rs.bind_ok, vtruth_bl]]
  rfl
def mbBody : Ss := (.cons (.ifs (.cmp .eq (.ix (.v 2) (.k (.int 0))) (.v 1)) (.cons (.ret (.v 2)) .nil) .nil) .nil)
theorem mb_body (C : Calls) (s : Sto) (v0 : Slot) (n : List Nat) (m : Ma) : evSs C G mbBody [v0, .val (.str n), .val m.d] s = if m.nm = n then .rt m.d s else .nx [v0, .val (.str n), .val m.d] s := by
  have c : evE C G (.cmp .eq (.ix (.v 2) (.k (.int 0))) (.v 1)) [v0, .val (.str n), .val m.d] s = .ok (.bl (decide (m.nm = n))) s := by
    simp [Ma.d, index_0, cmpop, pyEq, okEq]
    rw [Bool.eq_iff_iff]
    simp
  unfold mbBody
  rw [ss_if c (vtruth_bl _ s)]
  by_cases h : m.nm = n
  · simp only [decide_eq_true h, if_true, h]
    rw [ss_ret (d := m.d) (s' := s) (by simp)]
    rfl
  · simp only [decide_eq_false h, if_neg h]
    simp
theorem mb_for (C : Calls) (s : Sto) (v0 : Slot) (n : List Nat) : ∀ (ms : List Ma) (x : Slot), n ∈ ms.map Ma.nm → ∃ m ∈ ms, m.nm = n ∧ forGo (.name 2) (evSs C G mbBody) (ms.map Ma.d) [v0, .val (.str n), x] s = .rt m.d s
  | [], _, h => by simp at h
  | m :: ms, x, h => by
    have hb := mb_body C s v0 n m
    have h1 : forGo (.name 2) (evSs C G mbBody) ((m :: ms).map Ma.d) [v0, .val (.str n), x] s = match evSs C G mbBody [v0, .val (.str n), .val m.d] s with
      | .nx e s | .ct e s => forGo (.name 2) (evSs C G mbBody) (ms.map Ma.d) e s
      | .bk e s => .nx e s
      | r => r := rfl
    rw [h1, hb]
    by_cases hm : m.nm = n
    · rw [if_pos hm]
      exact ⟨m, List.mem_cons_self, hm, rfl⟩
    · rw [if_neg hm]
      have h2 : n ∈ ms.map Ma.nm := by
        rw [List.map_cons, List.mem_cons] at h
        exact h.resolve_left fun e => hm e.symm
      obtain ⟨m', h3, h4, h5⟩ := mb_for C s v0 n ms (.val m.d) h2
      exact ⟨m', List.mem_cons_of_mem _ h3, h4, h5⟩
theorem master_by (k : Nat) (s : Sto) {ms : List Ma} {n : List Nat} (h : n ∈ ms.map Ma.nm) : ∃ m ∈ ms, m.nm = n ∧ callK G T (k + 1) n_master_by [.tup (ms.map Ma.d), .str n] s = .ok m.d s := by
  obtain ⟨m, h1, h2, h3⟩ := mb_for (callK G T k) s (.val (.tup (ms.map Ma.d))) n ms .non h
  refine ⟨m, h1, h2, ?_⟩
  rw [call_eq T_master_by rfl]
  apply runB_rt
  unfold F_master_by
  rw [evSs_cons_1, evS_for_17]
  have e0 : evIt (callK G T k) G (.seq (.v 0)) (startE 3 [.tup (ms.map Ma.d), .str n]) s = .ok (ms.map Ma.d) s := by
    simp [startE, seqIt]
  rw [e0, Rs.bindS_ok]
  unfold mbBody at h3
  have e1 : startE 3 [.tup (ms.map Ma.d), .str n] = [.val (.tup (ms.map Ma.d)), .val (.str n), .non] := rfl
  rw [e1, h3]
  rfl
/-- going up comes to an end -/
structure Ranked (ms : List Ma) (r : List Nat → Nat) : Prop where
  bd : ∀ m ∈ ms, r m.nm < 1000
  up : ∀ m ∈ ms, ∀ o, m.ov = some o → o ∈ ms.map Ma.nm ∧ r o < r m.nm
def crBody : Ss := (.cons (.ifs (.inO false (.v 1) 2) (.cons (.ret (.k (.bl true))) .nil) .nil)
 (.cons (.app 2 (.v 1))
 (.cons (.set 1 (.ix (.call 17 (.cons (.v 0) (.cons (.v 1) .nil))) (.k (.int 1)))) .nil)))
theorem while_step {c : Env → Sto → Rs Bool} {body : Env → Sto → SRs} {n : Nat} {e e1 : Env} {s s1 s2 : Sto} (h : c e s = .ok true s1) (hb : body e s1 = .nx e1 s2) : whileGo c body (n + 1) e s = whileGo c body n e1 s2 := by
  rw [whileGo, h, Rs.bindS_ok]
  simp only [hb]
theorem cr_while (k : Nat) (s : Sto) {ms : List Ma} {r : List Nat → Nat} (hr : Ranked ms r) : ∀ (f j : Nat) (cur : Option (List Nat)) (met : List (List Nat)), j < f → met.length + j ≤ 2000 →
    (∀ n, cur = some n → n ∈ ms.map Ma.nm ∧ r n < j ∧ ∀ x ∈ met, r n < r x) →
    ∃ met', whileGo (fun e s => (evE (callK G T (k + 1)) G (.notN (.v 1)) e s).bind truthR) (evSs (callK G T (k + 1)) G crBody) f [.val (.tup (ms.map Ma.d)), .val (ovD cur), .own (met.map .str)] s = .nx [.val (.tup (ms.map Ma.d)), .val .non, .own met'] s
  | 0, j, _, _, hj, _, _ => by omega
  | f + 1, j, none, met, hj, hl, h => ⟨_, by
    simp [whileGo, ovD, truthR, truth]
    rfl⟩
  | f + 1, j, some n, met, hj, hl, h => by
    obtain ⟨h1, h2, h3⟩ := h n rfl
    obtain ⟨m, m1, m2, m3⟩ := master_by k s h1
    have hn : n ∉ met := fun hc => by
      have := h3 n hc
      omega
    have ih := cr_while k s hr f (r n) m.ov (met ++ [n]) (by omega) (by simp; omega) fun o ho => by
      obtain ⟨u1, u2⟩ := hr.up m m1 o ho
      rw [m2] at u2
      refine ⟨u1, u2, fun x hx => ?_⟩
      rcases List.mem_append.mp hx with hx | hx
      · have := h3 x hx
        omega
      · rw [List.mem_singleton.mp hx]; exact u2
    obtain ⟨met', ih⟩ := ih
    refine ⟨met', ?_⟩
    have c1 : evE (callK G T (k + 1)) G (.inO false (.v 1) 2) [.val (.tup (ms.map Ma.d)), .val (.str n), .own (met.map .str)] s = .ok (.bl false) s := by
      have := isIn_strs n met
      rw [decide_eq_false hn] at this
      rw [evE_inO_29, evE_v_0]
      show ((Rs.ok _ _).bind _) = _
      rw [Rs.bind_ok]
      show ((Rs.ok _ _).bind _) = _
      rw [Rs.bind_ok, this]
      rfl
    have hlen : decide ((met.map D.str).length < lim) = true := decide_eq_true (by
      rw [List.length_map]
      have : lim = 16777216 := rfl
      omega)
    have c2 : evE (callK G T (k + 1)) G (.ix (.call 17 (.cons (.v 0) (.cons (.v 1) .nil))) (.k (.int 1))) [.val (.tup (ms.map Ma.d)), .val (.str n), .own (met.map .str ++ [.str n])] s = .ok (ovD m.ov) s := by
      rw [evE_ix_23, ev_call2 (s' := s) (s2 := s) (d := .tup (ms.map Ma.d)) (d2 := .str n) (by simp) (by simp), m3, Rs.bind_ok, evE_k_1, Rs.bind_ok]
      simp [Ma.d, index_1]
    have hb : evSs (callK G T (k + 1)) G crBody [.val (.tup (ms.map Ma.d)), .val (.str n), .own (met.map .str)] s = .nx [.val (.tup (ms.map Ma.d)), .val (ovD m.ov), .own ((met ++ [n]).map .str)] s := by
      unfold crBody
      rw [ss_skip c1, evSs_cons_1, evS_app_6]
      show SRs.bind ((Rs.ok _ _).bindS _ _) _ = _
      rw [Rs.bindS_ok]
      show SRs.bind ((Rs.ok _ _).bindS _ _) _ = _
      rw [Rs.bindS_ok]
      simp only [hlen]
      rw [SRs.bind_nx]
      show evSs _ _ _ [.val (.tup (ms.map Ma.d)), .val (.str n), .own (met.map .str ++ [.str n])] s = _
      rw [ss_set c2, evSs_nil_0, List.map_append]
      rfl
    have hc : (evE (callK G T (k + 1)) G (.notN (.v 1)) [.val (.tup (ms.map Ma.d)), .val (.str n), .own (met.map .str)] s).bind truthR = .ok true s := by
      simp [truthR, truth]
    exact (while_step (c := fun e s => (evE (callK G T (k + 1)) G (.notN (.v 1)) e s).bind truthR) hc hb).trans ih
theorem no_round (k : Nat) (s : Sto) {ms : List Ma} {r : List Nat → Nat} (hr : Ranked ms r) {n : List Nat} (h : n ∈ ms.map Ma.nm) : callK G T (k + 2) n_comes_round [.tup (ms.map Ma.d), .str n] s = .ok (.bl false) s := by
  have hb : r n < 1000 := by
    obtain ⟨m, hm, rfl⟩ := List.mem_map.mp h
    exact hr.bd m hm
  obtain ⟨met, hw⟩ := cr_while k s hr fuel 1000 (some n) [] (by decide) (by simp) fun x hx => by
    cases hx
    exact ⟨h, hb, fun y hy => by cases hy⟩
  rw [call_eq T_comes_round rfl]
  apply runB_rt
  unfold F_comes_round
  rw [evSs_cons_1, evS_own_1]
  have e1 : evF (callK G T (k + 1)) G (.lst .nil) (startE 3 [.tup (ms.map Ma.d), .str n]) s = .ok [] s := by simp
  rw [e1, Rs.bindS_ok, SRs.bind_nx, evSs_cons_1, evS_while_18]
  unfold crBody at hw
  have e2 : (startE 3 [.tup (ms.map Ma.d), .str n]).set 2 (.own []) = [.val (.tup (ms.map Ma.d)), .val (ovD (some n)), .own (([] : List (List Nat)).map .str)] := rfl
  rw [e2, hw, SRs.bind_nx]
  exact ss_ret (by simp)
end Ms

set_option Elab.async false
set_option linter.all false
set_option autoImplicit false
set_option maxRecDepth 100000
set_option maxHeartbeats 4000000
namespace Ms
/-! ## No fault of masters -/
theorem ev_ixt {C : Calls} {a b : E} {e : Env} {s : Sto} {l : List D} {i : Nat} (h1 : evE C G a e s = .ok (.tup l) s) (h2 : evE C G b e s = .ok (.int (i : Int)) s) (h : i < l.length) : evE C G (.ix a b) e s = .ok l[i] s := by
  rw [evE_ix_23, h1, Rs.bind_ok, h2, Rs.bind_ok, der_tup', ixt_nat h, Rs.of_some]
theorem ev_ixl {C : Calls} {a b : E} {e : Env} {s : Sto} {l : List D} {i : Nat} (h1 : evE C G a e s = .ok (.lst l) s) (h2 : evE C G b e s = .ok (.int (i : Int)) s) (h : i < l.length) : evE C G (.ix a b) e s = .ok l[i] s := by
  rw [evE_ix_23, h1, Rs.bind_ok, h2, Rs.bind_ok, der_lst', ix_nat h, Rs.of_some]
theorem ev_not {C : Calls} {a : E} {e : Env} {s s' : Sto} {b : Bool} (h : evE C G a e s = .ok (.bl b) s') : evE C G (.not a) e s = .ok (.bl (!b)) s' := by
  rw [evE_not_11, h, Rs.bind_ok, vtruth_bl, Rs.bind_ok]
theorem ev_notN_non {C : Calls} {a : E} {e : Env} {s s' : Sto} (h : evE C G a e s = .ok .non s') : evE C G (.notN a) e s = .ok (.bl false) s' := by
  rw [evE_notN_8, h, Rs.bind_ok]; rfl
theorem ev_v {C : Calls} {i : Nat} {e : Env} {s : Sto} {d : D} (h : e.get i = some d) : evE C G (.v i) e s = .ok d s := by
  rw [evE_v_0, h, Rs.of_some]
/-- is it among the ones ahead -/
theorem ahead_no {C : Calls} {e : Env} {s : Sto} {l : List (List Nat)} {i : Nat} (h0 : e.get 0 = some (.int (i : Int))) (h1 : e.get 1 = some (.lst (l.map .str))) (h : l.Nodup) (hi : i < l.length) : evE C G (.cmp .isin (.ix (.v 1) (.v 0)) (.fl (.slc (.v 1) .none (.some (.v 0))))) e s = .ok (.bl false) s := by
  have e1 := ev_ixl (C := C) (s := s) (ev_v h1) (ev_v h0) (show i < (l.map D.str).length by simpa using hi)
  rw [List.getElem_map] at e1
  have e2 : evE C G (.fl (.slc (.v 1) .none (.some (.v 0)))) e s = .ok (.lst ((l.take i).map .str)) s := by
    rw [evE_fl_26, evF_slc_2, ev_v h1, Rs.bind_ok, evO_none_0, Rs.bind_ok, evO_some_1, ev_v h0, Rs.bind_ok]
    have : sliceL (der s (.lst (l.map .str))) none (some (i : Int)) = some ((l.take i).map .str) := by
      show some (cut _ _ _) = _
      rw [cut_take _ _ (by simp; omega), List.map_take]
    simp only [optInt, Rs.of_some, Rs.bind_ok, this]
  have e3 := isIn_strs l[i] (l.take i)
  rw [decide_eq_false (nodup_take h hi)] at e3
  rw [evE_cmp_5, e1, Rs.bind_ok, e2, Rs.bind_ok, der_str', der_lst']
  have e4 : cmpop .isin (.str l[i]) (.lst ((l.take i).map .str)) = some false := e3
  rw [e4]
  rfl
structure GMs (ms : List Ma) : Prop where
  lo : 1 ≤ ms.length
  hi : ms.length ≤ 12
  ok : ∀ m ∈ ms, m.ok
  nod : (ms.map Ma.nm).Nodup
  rk : ∃ r, Ranked ms r
def msD (ms : List Ma) : D := .tup (ms.map Ma.d)
theorem fault_masters (k : Nat) (s : Sto) {ms : List Ma} (h : GMs ms) : callK G T (k + 8) n_fault_of_masters [msD ms] s = .ok .non s := by
  obtain ⟨r, hr⟩ := h.rk
  have hlen : (ms.map Ma.d).length = ms.length := List.length_map ..
  have h12 := h.hi
  have hb : ∀ s, b1 .len (der s (msD ms)) = some (.int (ms.length : Int)) := fun s => by
    show some (D.int ((ms.map Ma.d).length : Int)) = _
    rw [hlen]
  rw [call_eq T_fault_of_masters rfl]
  apply runB_rt
  have st : startE 4 [msD ms] = [.val (msD ms), .non, .non, .non] := rfl
  rw [st]
  unfold F_fault_of_masters
  have f1 : evE (callK G T (k + 7)) G (.fw (.v 0) [0] 2 (.not (.call 16 (.cons (.ix (.v 1) (.v 0)) .nil)))) [.val (msD ms), .non, .non, .non] s = .ok .non s := by
    refine fw_none (x := msD ms) (vs := [msD ms]) (ev_v rfl) (hb s) (by omega) rfl fun i hi => ?_
    have e1 := ev_ixt (C := callK G T (k + 7)) (e := startE 2 [.int (i : Int), msD ms]) (s := s) (l := ms.map Ma.d) (a := .v 1) (b := .v 0) (ev_v rfl) (ev_v rfl) (by omega)
    rw [List.getElem_map] at e1
    have e2 := master_true k s (h.ok ms[i] (List.getElem_mem hi))
    rw [ev_not ((ev_call1 e1).trans e2)]
    rfl
  rw [ss_set f1]
  have s1 : ([.val (msD ms), .non, .non, .non] : Env).set 1 (.val .non) = [.val (msD ms), .val .non, .non, .non] := rfl
  rw [s1, ss_skip (ev_notN_non (ev_v rfl)), evSs_cons_1, evS_own_1]
  have f2 : evF (callK G T (k + 7)) G (.lc (.ix (.v 3) (.k (.int 0))) (.name 3) (.seq (.v 0)) .none [3]) [.val (msD ms), .val .non, .non, .non] s = .ok ((ms.map Ma.nm).map .str) s := by
    rw [evF_lc_3, evIt_seq_0, ev_v rfl]
    show ((Rs.ok (ms.map Ma.d) s).bind _) = _
    rw [Rs.bind_ok]
    simp only [decide_eq_true (le_lim (n := (ms.map Ma.d).length) (m := 12) (by omega) (by decide))]
    rw [List.map_map, lc_map Ma.d (D.str ∘ Ma.nm) ms fun m hm => ⟨_, rfl, by simp, by
      rw [evE_ix_23, ev_v rfl, Rs.bind_ok, evE_k_1, Rs.bind_ok]
      show Rs.of (index (.tup _) _) _ = _
      rw [index_0]; rfl⟩]
    rfl
  rw [f2, Rs.bindS_ok, SRs.bind_nx, evSs_frz_2]
  have s2 : frzE 2 (([.val (msD ms), .val .non, .non, .non] : Env).set 2 (.own ((ms.map Ma.nm).map .str))) = some [.val (msD ms), .val .non, .val (.lst ((ms.map Ma.nm).map .str)), .non] := rfl
  simp only [s2]
  have f3 : evE (callK G T (k + 7)) G (.fw (.v 0) [2] 2 (.cmp .isin (.ix (.v 1) (.v 0)) (.fl (.slc (.v 1) .none (.some (.v 0)))))) [.val (msD ms), .val .non, .val (.lst ((ms.map Ma.nm).map .str)), .non] s = .ok .non s := by
    refine fw_none (x := msD ms) (vs := [.lst ((ms.map Ma.nm).map .str)]) (ev_v rfl) (hb s) (by omega) rfl fun i hi => ?_
    exact ahead_no (l := ms.map Ma.nm) rfl rfl h.nod (by simpa using hi)
  rw [ss_set f3]
  have s3 : ([.val (msD ms), .val .non, .val (.lst ((ms.map Ma.nm).map .str)), .non] : Env).set 1 (.val .non) = [.val (msD ms), .val .non, .val (.lst ((ms.map Ma.nm).map .str)), .non] := rfl
  rw [s3, ss_skip (ev_notN_non (ev_v rfl))]
  have f4 : evE (callK G T (k + 7)) G (.fw (.v 0) [2, 0] 3 (.and (.notN (.ix (.ix (.v 2) (.v 0)) (.k (.int 1)))) (.cmp .notin (.ix (.ix (.v 2) (.v 0)) (.k (.int 1))) (.v 1)))) [.val (msD ms), .val .non, .val (.lst ((ms.map Ma.nm).map .str)), .non] s = .ok .non s := by
    refine fw_none (x := msD ms) (vs := [.lst ((ms.map Ma.nm).map .str), msD ms]) (ev_v rfl) (hb s) (by omega) rfl fun i hi => ?_
    have e1 := ev_ixt (C := callK G T (k + 7)) (e := startE 3 [.int (i : Int), .lst ((ms.map Ma.nm).map .str), msD ms]) (s := s) (l := ms.map Ma.d) (a := .v 2) (b := .v 0) (ev_v rfl) (ev_v rfl) (by omega)
    rw [List.getElem_map] at e1
    have e2 : evE (callK G T (k + 7)) G (.ix (.ix (.v 2) (.v 0)) (.k (.int 1))) (startE 3 [.int (i : Int), .lst ((ms.map Ma.nm).map .str), msD ms]) s = .ok (ovD ms[i].ov) s := by
      rw [evE_ix_23, e1, Rs.bind_ok, evE_k_1, Rs.bind_ok]
      show Rs.of (index (.tup _) _) _ = _
      rw [index_1]; rfl
    cases ho : ms[i].ov with
    | none =>
      rw [ho] at e2
      rw [evE_and_9, ev_notN_non e2, Rs.bind_ok, vtruth_bl, Rs.bind_ok]
    | some o =>
      rw [ho] at e2
      have hm := (hr.up ms[i] (List.getElem_mem hi) o ho).1
      have e3 := isIn_strs o (ms.map Ma.nm)
      rw [decide_eq_true hm] at e3
      rw [evE_and_9, evE_notN_8, e2, Rs.bind_ok, Rs.bind_ok]
      show (truthR (.bl true) s).bind _ = _
      rw [vtruth_bl, Rs.bind_ok]
      show evE _ _ _ _ _ = _
      rw [evE_cmp_5, e2, Rs.bind_ok, ev_v rfl, Rs.bind_ok]
      show Rs.of (((isIn (.str o) (.lst ((ms.map Ma.nm).map .str))).map (fun x => !x)).map D.bl) s = _
      rw [e3]
      rfl
  rw [ss_set f4, s3, ss_skip (ev_notN_non (ev_v rfl))]
  have f5 : evE (callK G T (k + 7)) G (.fw (.v 0) [0, 2] 3 (.call 18 (.cons (.v 1) (.cons (.ix (.v 2) (.v 0)) .nil)))) [.val (msD ms), .val .non, .val (.lst ((ms.map Ma.nm).map .str)), .non] s = .ok .non s := by
    refine fw_none (x := msD ms) (vs := [msD ms, .lst ((ms.map Ma.nm).map .str)]) (ev_v rfl) (hb s) (by omega) rfl fun i hi => ?_
    have hi2 : i < (ms.map Ma.nm).length := by simpa using hi
    have e1 := ev_ixl (C := callK G T (k + 7)) (e := startE 3 [.int (i : Int), msD ms, .lst ((ms.map Ma.nm).map .str)]) (s := s) (l := (ms.map Ma.nm).map .str) (a := .v 2) (b := .v 0) (ev_v rfl) (ev_v rfl) (by simpa using hi)
    rw [List.getElem_map] at e1
    exact (ev_call2 (d := msD ms) (ev_v rfl) e1).trans (no_round (k + 5) s hr (List.getElem_mem hi2))
  rw [ss_set f5, s3, ss_skip (ev_notN_non (ev_v rfl))]
  exact ss_ret (by rw [evE_k_1])
end Ms

set_option Elab.async false
set_option linter.all false
set_option autoImplicit false
set_option maxRecDepth 100000
set_option maxHeartbeats 4000000
namespace Ms
/-! ## Hands, fills, steps, links -/
theorem guard {C : Calls} {s : Sto} {L : List D} {f g : Nat} {m : Nat} (hg : G g = .int (m : Int)) (hl : L.length ≤ m) (hm : m ≤ 1000) (h : ∀ x ∈ L, C f [x] s = .ok (.bl true) s) : evE C G (.or (.not (.isin (.v 0) .tup)) (.or (.cmp .gt (.b1 .len (.v 0)) (.g g)) (.not (.b1 .all (.fl (.lc (.call f (.cons (.v 1) .nil)) (.name 1) (.seq (.v 0)) .none [1])))))) [.val (.tup L), .non] s = .ok (.bl false) s := by
  have c0 : evE C G (.isin (.v 0) .tup) [.val (.tup L), .non] s = .ok (.bl true) s := by simp [isTy]
  have c1 : evE C G (.b1 .all (.fl (.lc (.call f (.cons (.v 1) .nil)) (.name 1) (.seq (.v 0)) .none [1]))) [.val (.tup L), .non] s = .ok (.bl true) s := by
    refine all_lc (ds := L) (by simp [seqIt]) (le_lim hl (by omega)) fun x hx => ⟨_, rfl, ?_⟩
    exact (ev_call1 (ev_v rfl)).trans (h x hx)
  have c2 : evE C G (.cmp .gt (.b1 .len (.v 0)) (.g g)) [.val (.tup L), .non] s = .ok (.bl false) s := by
    have n8 : ¬ (m : Int) < (L.length : Int) := by omega
    rw [evE_cmp_5, evE_b1_16, ev_v rfl, Rs.bind_ok]
    show ((Rs.ok (D.int (L.length : Int)) s).bind _) = _
    rw [Rs.bind_ok, evE_g_2, Rs.bind_ok, hg]
    show Rs.of (some (D.bl (decide ((m : Int) < (L.length : Int))))) s = _
    rw [decide_eq_false n8]
    rfl
  rw [evE_or_10, ev_not c0, Rs.bind_ok, vtruth_bl, Rs.bind_ok]
  show evE _ _ _ _ _ = _
  rw [evE_or_10, c2, Rs.bind_ok, vtruth_bl, Rs.bind_ok]
  exact ev_not c1
theorem ltL_irrV : ∀ x : List Nat, ltL x x = false
  | [] => rfl
  | x :: xs => by simp [ltL, ltL_irrV xs]
theorem cmp_lt_str {s : Sto} {x y : List Nat} (h : ltL x y = true) : cmpop .lt (der s (.str x)) (der s (.str y)) = some true := by
  simp [cmpop, h]
structure Ha where
  pl : List Nat
  j : Nat
  w : D
def Ha.d (h : Ha) : D := .tup [.str h.pl, tr h.j, h.w]
structure Ha.ok (h : Ha) : Prop where
  pl : nameB h.pl = true
  j : h.j < 6
  w : GWorth h.j h.w
def Ha.lt (a b : Ha) : Prop := ltL a.pl b.pl = true ∨ (a.pl = b.pl ∧ a.j < b.j)
theorem Ha.cmp {a b : Ha} (h : a.lt b) (s : Sto) : cmpop .lt (der s (.tup [.str a.pl, .int (a.j : Int)])) (der s (.tup [.str b.pl, .int (b.j : Int)])) = some true := by
  rw [der_tup', der_tup']
  show some (if a.pl = b.pl then decide ((a.j : Int) < (b.j : Int)) else ltL a.pl b.pl) = some true
  rcases h with h | ⟨h1, h2⟩
  · have : ¬ a.pl = b.pl := fun e => by
      rw [e, ltL_irrV] at h
      cases h
    rw [if_neg this, h]
  · rw [if_pos h1, decide_eq_true (by omega)]
theorem hand_true (k : Nat) (s : Sto) {h : Ha} (ok : h.ok) : callK G T (k + 4) n_is_hand [h.d] s = .ok (.bl true) s := by
  rw [call_eq T_is_hand rfl]
  have e1 := name_true (k + 2) s ⟨h.pl, rfl, ok.pl⟩
  have e2 := trait_true (k + 2) s ok.j
  have e3 := worth_true k s ok.w
  apply runB_rt
  unfold F_is_hand Ha.d
  rw [ss_skip (s' := s) (by simp [startE, isTy, truthR, truth, b1, cmpop, pyEq, okEq, index_0, index_1, e1, e2])]
  exact ss_ret (by simp [startE, index_1, index_2, e3])
theorem hands_true (k : Nat) (s : Sto) {l : List Ha} (hl : l.length ≤ 48) (ok : ∀ h ∈ l, h.ok) (lt : l.Pairwise Ha.lt) : callK G T (k + 5) n_are_hands [.tup (l.map Ha.d)] s = .ok (.bl true) s := by
  rw [call_eq T_are_hands rfl]
  apply runB_rt
  unfold F_are_hands
  have st : startE 2 [.tup (l.map Ha.d)] = [.val (.tup (l.map Ha.d)), .non] := rfl
  rw [st, ss_skip (guard (m := 48) (by kernel_rfl) (by rw [List.length_map]; exact hl) (by decide) fun x hx => by
    obtain ⟨h, hh, rfl⟩ := List.mem_map.mp hx
    exact hand_true k s (ok h hh))]
  have c := lc_map (tg := .name 1) (env := [.val (.tup (l.map Ha.d)), .non]) (cc := evC (callK G T (k + 4)) G .none) (elt := evE (callK G T (k + 4)) G (.tup (.cons (.ix (.v 1) (.k (.int 0))) (.cons (.m .index (.g 0) (.cons (.ix (.v 1) (.k (.int 1))) .nil)) .nil)))) (s := s) Ha.d (fun h => .tup [.str h.pl, .int (h.j : Int)]) l fun h hh => by
    refine ⟨_, rfl, by simp, ?_⟩
    have e := tr_index (ok h hh).j
    have d0 : der s (G 0) = G 0 := by kernel_rfl
    have dj : der s (tr h.j) = tr h.j := rfl
    simp [Ha.d, index_0, index_1, d0, dj, e, lim]
  have e2 := fl_lc (C := callK G T (k + 4)) (c := .none) (own := [1]) (it := .seq (.v 0)) (e := [.val (.tup (l.map Ha.d)), .non]) (ds := l.map Ha.d) (by simp [seqIt]) (le_lim (m := 48) (by rw [List.length_map]; exact hl) (by decide)) c
  refine ss_ret ((ev_call1 e2).trans ?_)
  refine rise_true (k + 3) s (by rw [List.length_map]; omega) fun i hi => ?_
  rw [List.length_map] at hi
  simp only [List.getElem_map]
  exact Ha.cmp (List.pairwise_iff_getElem.mp lt i (i + 1) (by omega) hi (by omega)) s
/-! ### fills, links: things by a place -/
def keyV (q : List Nat × D) : D := .tup [.str q.1, q.2]
def Asc (l : List (List Nat × D)) : Prop := l.Pairwise fun a b => ltL a.1 b.1 = true
theorem fill_true (k : Nat) (s : Sto) {q : List Nat × D} (h1 : nameB q.1 = true) (h2 : GLines q.2) : callK G T (k + 3) n_is_fill [keyV q] s = .ok (.bl true) s := by
  rw [call_eq T_is_fill rfl]
  have e1 := name_true (k + 1) s ⟨q.1, rfl, h1⟩
  have e2 := lines_true k s h2
  apply runB_rt
  unfold F_is_fill keyV
  exact ss_ret (by simp [startE, isTy, truthR, truth, b1, cmpop, pyEq, okEq, index_0, index_1, e1, e2])
theorem key_rise (k : Nat) (s : Sto) (C : Calls) {l : List (List Nat × D)} (hl : l.length ≤ 12) (lt : Asc l) : evE (callK G T (k + 1)) G (.call 12 (.cons (.fl (.lc (.ix (.v 1) (.k (.int 0))) (.name 1) (.seq (.v 0)) .none [1])) .nil)) [.val (.tup (l.map keyV)), .non] s = .ok (.bl true) s := by
  have c := lc_map (tg := .name 1) (env := [.val (.tup (l.map keyV)), .non]) (cc := evC (callK G T (k + 1)) G .none) (elt := evE (callK G T (k + 1)) G (.ix (.v 1) (.k (.int 0)))) (s := s) keyV (fun q => .str q.1) l fun q hq => by
    refine ⟨_, rfl, by simp, ?_⟩
    simp [keyV, index_0]
  have e2 := fl_lc (C := callK G T (k + 1)) (c := .none) (own := [1]) (it := .seq (.v 0)) (e := [.val (.tup (l.map keyV)), .non]) (ds := l.map keyV) (by simp [seqIt]) (le_lim (m := 12) (by rw [List.length_map]; exact hl) (by decide)) c
  refine (ev_call1 e2).trans ?_
  refine rise_true k s (by rw [List.length_map]; omega) fun i hi => ?_
  rw [List.length_map] at hi
  simp only [List.getElem_map]
  exact cmp_lt_str (List.pairwise_iff_getElem.mp lt i (i + 1) (by omega) hi (by omega))
theorem fills_true (k : Nat) (s : Sto) {l : List (List Nat × D)} (hl : l.length ≤ 12) (ok : ∀ q ∈ l, nameB q.1 = true ∧ GLines q.2) (lt : Asc l) : callK G T (k + 4) n_are_fills [.tup (l.map keyV)] s = .ok (.bl true) s := by
  rw [call_eq T_are_fills rfl]
  apply runB_rt
  unfold F_are_fills
  have st : startE 2 [.tup (l.map keyV)] = [.val (.tup (l.map keyV)), .non] := rfl
  rw [st, ss_skip (guard (m := 12) (by kernel_rfl) (by rw [List.length_map]; exact hl) (by decide) fun x hx => by
    obtain ⟨h, hh, rfl⟩ := List.mem_map.mp hx
    exact fill_true k s (ok h hh).1 (ok h hh).2)]
  exact ss_ret (key_rise (k + 2) s (callK G T k) hl lt)
end Ms

set_option Elab.async false
set_option linter.all false
set_option autoImplicit false
set_option maxRecDepth 100000
set_option maxHeartbeats 4000000
namespace Ms
/-! ## Steps, links, slides -/
structure St where
  kd : List Nat
  w : Int
  de : List Nat
  pl : List Nat
  ln : D
def St.d (t : St) : D := .tup [.str t.kd, .int t.w, .str t.de, .str t.pl, t.ln]
structure St.ok (t : St) : Prop where
  kd : isIn (.str t.kd) (G 16) = some true
  w0 : 0 ≤ t.w
  w1 : t.w ≤ 99
  de : isIn (.str t.de) (G 17) = some true
  pl : nameB t.pl = true
  ln : t.ln = .non ∨ ∃ i : Int, t.ln = .int i ∧ 0 ≤ i ∧ i ≤ 11
theorem index_3 (a b c d : D) (l : List D) : index (.tup (a :: b :: c :: d :: l)) (.int 3) = some d := by
  show atIx _ _ = _
  rw [ix_lt _ _ (by omega) (by simp; omega)]; rfl
theorem step_true (k : Nat) (s : Sto) {t : St} (h : t.ok) : callK G T (k + 3) n_is_step [t.d] s = .ok (.bl true) s := by
  rw [call_eq T_is_step rfl]
  have e1 := name_true (k + 1) s ⟨t.pl, rfl, h.pl⟩
  have e2 := from_true k s h.w0 h.w1
  have e3 : t.ln = .non ∨ (t.ln.isNon = false ∧ callK G T (k + 2) 2 [t.ln, .int 0, .int 11] s = .ok (.bl true) s) := by
    rcases h.ln with h | ⟨i, e, h0, h1⟩
    · exact .inl h
    · rw [e]
      exact .inr ⟨rfl, from_true k s h0 h1⟩
  apply runB_rt
  unfold F_is_step St.d
  obtain ⟨e, he⟩ : ∃ e : Env, e = [.val (.tup [.str t.kd, .int t.w, .str t.de, .str t.pl, t.ln]), .val (.str t.kd), .val (.int t.w), .val (.str t.de), .val (.str t.pl), .val t.ln] := ⟨_, rfl⟩
  rw [ss_skip (s' := s) (by simp [startE, isTy, truthR, truth, b1, cmpop, pyEq, okEq, index_3, e1])]
  rw [ss_unp (s' := s) (ds := [.str t.kd, .int t.w, .str t.de, .str t.pl, t.ln]) (e' := e) (by simp [startE]) (by rw [he]; rfl)]
  have d16 : der s (G 16) = G 16 := by kernel_rfl
  have d17 : der s (G 17) = G 17 := by kernel_rfl
  rw [ss_skip (s' := s) (by rw [he]; simp [isTy, truthR, truth, cmpop, d16, d17, h.kd, h.de])]
  apply ss_ret
  rcases e3 with e3 | ⟨e3, e4⟩
  · rw [he]; simp [e2, e3, truthR, truth]
  · rw [he]; simp [e2, e3, e4, truthR, truth]
theorem steps_true (k : Nat) (s : Sto) {l : List St} (hl : l.length ≤ 24) (ok : ∀ t ∈ l, t.ok) : callK G T (k + 4) n_are_steps [.tup (l.map St.d)] s = .ok (.bl true) s := by
  rw [call_eq T_are_steps rfl]
  apply runB_rt
  unfold F_are_steps
  have st : startE 2 [.tup (l.map St.d)] = [.val (.tup (l.map St.d)), .non] := rfl
  rw [st]
  obtain ⟨L, hL⟩ : ∃ L, L = l.map St.d := ⟨_, rfl⟩
  have hl2 : L.length ≤ 24 := by rw [hL, List.length_map]; exact hl
  have c1 : evE (callK G T (k + 3)) G (.b1 .all (.fl (.lc (.call 35 (.cons (.v 1) .nil)) (.name 1) (.seq (.v 0)) .none [1]))) [.val (.tup L), .non] s = .ok (.bl true) s := by
    refine all_lc (ds := L) (by simp [seqIt]) (le_lim hl2 (by omega)) fun x hx => ⟨_, rfl, ?_⟩
    rw [hL] at hx
    obtain ⟨t, ht, rfl⟩ := List.mem_map.mp hx
    exact (ev_call1 (ev_v rfl)).trans (step_true k s (ok t ht))
  rw [← hL]
  have c0 : evE (callK G T (k + 3)) G (.isin (.v 0) .tup) [.val (.tup L), .non] s = .ok (.bl true) s := by simp [isTy]
  have c2 : evE (callK G T (k + 3)) G (.cmp .le (.b1 .len (.v 0)) (.g 14)) [.val (.tup L), .non] s = .ok (.bl true) s := by
    have n8 : (L.length : Int) ≤ 24 := by omega
    have g14 : G 14 = .int 24 := by kernel_rfl
    rw [evE_cmp_5, evE_b1_16, ev_v rfl, Rs.bind_ok]
    show ((Rs.ok (D.int (L.length : Int)) s).bind _) = _
    rw [Rs.bind_ok, evE_g_2, Rs.bind_ok, g14]
    show Rs.of (some (D.bl (decide ((L.length : Int) ≤ 24)))) s = _
    rw [decide_eq_true n8]
    rfl
  apply ss_ret
  rw [evE_and_9, c0, Rs.bind_ok, vtruth_bl, Rs.bind_ok]
  show evE _ _ _ _ _ = _
  rw [evE_and_9, c2, Rs.bind_ok, vtruth_bl, Rs.bind_ok]
  exact c1
/-! ### links -/
inductive Tr where
  | to (n : List Nat) | first | last | ret
def Tr.d : Tr → D
  | .to n => .tup [.str [115, 108, 105, 100, 101], .str n]
  | .first => .tup [.str [102, 105, 114, 115, 116]]
  | .last => .tup [.str [108, 97, 115, 116]]
  | .ret => .tup [.str [114, 101, 116, 117, 114, 110]]
def Tr.ok : Tr → Prop
  | .to n => nameB n = true
  | _ => True
theorem target_true (k : Nat) (s : Sto) {t : Tr} (h : t.ok) : callK G T (k + 2) n_is_target [t.d] s = .ok (.bl true) s := by
  cases t with
  | to n =>
    rw [call_eq T_is_target rfl]
    have e1 := name_true k s ⟨n, rfl, h⟩
    have e2 : isIn (.int 2) (.tup [.int 1, .int 2]) = some true := by kernel_rfl
    apply runB_rt
    unfold F_is_target Tr.d
    rw [ss_skip (s' := s) (by simp [startE, isTy, truthR, truth, b1, cmpop, pyEq, okEq, index_0, e2, lim])]
    rw [ss_take (s' := s) (by simp [startE, b1, cmpop, pyEq, okEq])]
    rw [ss_ret (d := .bl true) (s' := s) (by simp [startE, cmpop, pyEq, okEq, index_0, index_1, truthR, truth, e1])]
    rfl
  | first => kernel_rfl
  | last => kernel_rfl
  | ret => kernel_rfl
def lkD (q : List Nat × Tr) : List Nat × D := (q.1, q.2.d)
theorem link_true (k : Nat) (s : Sto) {q : List Nat × Tr} (h1 : nameB q.1 = true) (h2 : q.2.ok) : callK G T (k + 3) n_is_link [keyV (lkD q)] s = .ok (.bl true) s := by
  rw [call_eq T_is_link rfl]
  have e1 := name_true (k + 1) s ⟨q.1, rfl, h1⟩
  have e2 := target_true k s h2
  apply runB_rt
  unfold F_is_link keyV lkD
  exact ss_ret (by simp [startE, isTy, truthR, truth, b1, cmpop, pyEq, okEq, index_0, index_1, e1, e2])
theorem links_true (k : Nat) (s : Sto) {l : List (List Nat × Tr)} (hl : l.length ≤ 12) (ok : ∀ q ∈ l, nameB q.1 = true ∧ q.2.ok) (lt : Asc (l.map lkD)) : callK G T (k + 4) n_are_links [.tup ((l.map lkD).map keyV)] s = .ok (.bl true) s := by
  rw [call_eq T_are_links rfl]
  apply runB_rt
  unfold F_are_links
  have st : startE 2 [.tup ((l.map lkD).map keyV)] = [.val (.tup ((l.map lkD).map keyV)), .non] := rfl
  rw [st, ss_skip (guard (m := 12) (by kernel_rfl) (by rw [List.length_map, List.length_map]; exact hl) (by decide) fun x hx => by
    obtain ⟨h, hh, rfl⟩ := List.mem_map.mp hx
    obtain ⟨q, hq, rfl⟩ := List.mem_map.mp hh
    exact link_true k s (ok q hq).1 (ok q hq).2)]
  exact ss_ret (key_rise (k + 2) s (callK G T k) (by rw [List.length_map]; exact hl) lt)
end Ms

set_option Elab.async false
set_option linter.all false
set_option autoImplicit false
set_option maxRecDepth 100000
set_option maxHeartbeats 4000000
namespace Ms
/-! ## Slides, decks -/
structure Sl where
  nm : List Nat
  ms : List Nat
  hands : List Ha
  fills : List (List Nat × D)
  steps : List St
  links : List (List Nat × Tr)
  hid : Int
  notes : List Nat
def handsD (l : List Ha) : D := .tup (l.map Ha.d)
def keysD (l : List (List Nat × D)) : D := .tup (l.map keyV)
def stepsD (l : List St) : D := .tup (l.map St.d)
def linksD (l : List (List Nat × Tr)) : D := .tup ((l.map lkD).map keyV)
def Sl.d (t : Sl) : D := .tup [.str t.nm, .str t.ms, handsD t.hands, keysD t.fills, stepsD t.steps, linksD t.links, .int t.hid, .str t.notes]
structure Sl.ok (t : Sl) : Prop where
  nm : nameB t.nm = true
  ms : nameB t.ms = true
  hl : t.hands.length ≤ 48
  ho : ∀ h ∈ t.hands, h.ok
  ha : t.hands.Pairwise Ha.lt
  fl : t.fills.length ≤ 12
  fo : ∀ q ∈ t.fills, nameB q.1 = true ∧ GLines q.2
  fa : Asc t.fills
  sl : t.steps.length ≤ 24
  so : ∀ x ∈ t.steps, x.ok
  ll : t.links.length ≤ 12
  lo : ∀ q ∈ t.links, nameB q.1 = true ∧ q.2.ok
  la : Asc (t.links.map lkD)
  hid : t.hid = 0 ∨ t.hid = 1
  no : GWrit 200 (.str t.notes)
theorem slide_true (k : Nat) (s : Sto) {t : Sl} (h : t.ok) : callK G T (k + 6) n_is_slide [t.d] s = .ok (.bl true) s := by
  rw [call_eq T_is_slide rfl]
  have e1 := name_true (k + 4) s ⟨t.nm, rfl, h.nm⟩
  have e2 := name_true (k + 4) s ⟨t.ms, rfl, h.ms⟩
  have e3 : callK G T (k + 5) 32 [handsD t.hands] s = .ok (.bl true) s := hands_true k s h.hl h.ho h.ha
  have e4 : callK G T (k + 5) 34 [keysD t.fills] s = .ok (.bl true) s := fills_true (k + 1) s h.fl h.fo h.fa
  have e5 : callK G T (k + 5) 36 [stepsD t.steps] s = .ok (.bl true) s := steps_true (k + 1) s h.sl h.so
  have e6 : callK G T (k + 5) 39 [linksD t.links] s = .ok (.bl true) s := links_true (k + 1) s h.ll h.lo h.la
  have e7 : callK G T (k + 5) 1 [.int t.hid] s = .ok (.bl true) s := by kernel_rfl
  have e8 := writ_true (k + 4) s (m := 200) (by decide) h.no
  have g15 : G 15 = .int 200 := by kernel_rfl
  have e9 : isIn (.int t.hid) (.tup [.int 0, .int 1]) = some true := by
    rcases h.hid with h | h <;> rw [h] <;> rfl
  apply runB_rt
  unfold F_is_slide Sl.d
  generalize handsD t.hands = x1 at *
  generalize keysD t.fills = x2 at *
  generalize stepsD t.steps = x3 at *
  generalize linksD t.links = x4 at *
  obtain ⟨v, hv⟩ : ∃ v, v = D.tup [.str t.nm, .str t.ms, x1, x2, x3, x4, .int t.hid, .str t.notes] := ⟨_, rfl⟩
  obtain ⟨e, he⟩ : ∃ e : Env, e = [.val v, .val (.str t.nm), .val (.str t.ms), .val x1, .val x2, .val x3, .val x4, .val (.int t.hid), .val (.str t.notes)] := ⟨_, rfl⟩
  rw [ss_skip (s' := s) (by simp [startE, isTy, truthR, truth, b1, cmpop, pyEq, okEq, index_0, index_1, e1, e2])]
  rw [ss_unp (s' := s) (ds := [.str t.nm, .str t.ms, x1, x2, x3, x4, .int t.hid, .str t.notes]) (e' := e) (by simp [startE]) (by rw [he, hv]; rfl)]
  rw [ss_skip (s' := s) (by
    rw [evE_or_10, ev_not (((ev_call1 (ev_v (by rw [he]; rfl))).trans e3)), Rs.bind_ok, vtruth_bl, Rs.bind_ok]
    show evE _ _ _ _ _ = _
    rw [evE_or_10, ev_not (((ev_call1 (ev_v (by rw [he]; rfl))).trans e4)), Rs.bind_ok, vtruth_bl, Rs.bind_ok]
    show evE _ _ _ _ _ = _
    rw [evE_or_10, ev_not (((ev_call1 (ev_v (by rw [he]; rfl))).trans e5)), Rs.bind_ok, vtruth_bl, Rs.bind_ok]
    show evE _ _ _ _ _ = _
    rw [ev_not (((ev_call1 (ev_v (by rw [he]; rfl))).trans e6))]
    rfl)]
  apply ss_ret
  rw [evE_and_9, (ev_call1 (ev_v (d := .int t.hid) (by rw [he]; rfl))).trans e7, Rs.bind_ok, vtruth_bl, Rs.bind_ok]
  show evE _ _ _ _ _ = _
  have c2 : evE (callK G T (k + 5)) G (.cmp .isin (.v 7) (.tup (.cons (.k (.int 0)) (.cons (.k (.int 1)) .nil)))) e s = .ok (.bl true) s := by
    rw [he]; simp [cmpop, e9, lim]
  rw [evE_and_9, c2, Rs.bind_ok, vtruth_bl, Rs.bind_ok]
  show evE _ _ _ _ _ = _
  rw [ev_call2 (d := .str t.notes) (d2 := .int 200) (ev_v (by rw [he]; rfl)) (by rw [evE_g_2, g15])]
  exact e8
theorem index_5 (a b c d f g : D) (l : List D) : index (.tup (a :: b :: c :: d :: f :: g :: l)) (.int 5) = some g := by
  show atIx _ _ = _
  rw [ix_lt _ _ (by omega) (by simp; omega)]; rfl
def Tr.inB (names : List (List Nat)) : Tr → Bool
  | .to n => decide (n ∈ names)
  | _ => true
theorem astray_false (k : Nat) (s : Sto) {t : Sl} {names : List (List Nat)} (hl : t.links.length ≤ 12) (h : ∀ q ∈ t.links, q.2.inB names = true) : callK G T (k + 1) n_leads_astray [t.d, .lst (names.map .str)] s = .ok (.bl false) s := by
  rw [call_eq T_leads_astray rfl]
  apply runB_rt
  unfold F_leads_astray
  obtain ⟨N, hN⟩ : ∃ N, N = D.lst (names.map .str) := ⟨_, rfl⟩
  rw [← hN]
  have st : startE 4 [t.d, N] = [.val t.d, .val N, .non, .non] := rfl
  rw [st]
  have c := lc_map (tg := .tup [2, 3]) (env := [.val t.d, .val N, .non, .non]) (cc := evC (callK G T k) G .none) (elt := evE (callK G T k) G (.and (.cmp .eq (.ix (.v 3) (.k (.int 0))) (.k (.str [115, 108, 105, 100, 101]))) (.cmp .notin (.ix (.v 3) (.k (.int 1))) (.v 1)))) (s := s) (fun q => keyV (lkD q)) (fun _ => .bl false) t.links fun q hq => by
    refine ⟨[.val t.d, .val N, .val (.str q.1), .val q.2.d], rfl, by simp, ?_⟩
    have h0 := h q hq
    cases hq2 : q.2 with
    | to n =>
      rw [hq2] at h0
      have e1 : isIn (.str n) N = some true := by
        rw [hN, isIn_strs]
        exact congrArg some h0
      have dn : der s N = N := by rw [hN]; rfl
      simp [Tr.d, index_0, index_1, cmpop, pyEq, okEq, truthR, truth, dn, e1]
    | first => simp [Tr.d, index_0, cmpop, pyEq, okEq, truthR, truth]
    | last => simp [Tr.d, index_0, cmpop, pyEq, okEq, truthR, truth]
    | ret => simp [Tr.d, index_0, cmpop, pyEq, okEq, truthR, truth]
  have e0 : evIt (callK G T k) G (.seq (.ix (.v 0) (.k (.int 5)))) [.val t.d, .val N, .non, .non] s = .ok (t.links.map fun q => keyV (lkD q)) s := by
    rw [evIt_seq_0, evE_ix_23, ev_v rfl, Rs.bind_ok, evE_k_1, Rs.bind_ok]
    have : index (der s t.d) (.int 5) = some (linksD t.links) := index_5 ..
    rw [this, Rs.of_some, Rs.bind_ok]
    show Rs.of (some ((t.links.map lkD).map keyV)) s = _
    rw [List.map_map]
    rfl
  have e2 := fl_lc (c := .none) (own := [2, 3]) e0 (le_lim (m := 12) (by rw [List.length_map]; exact hl) (by decide)) c
  apply ss_ret
  rw [evE_b1_16, e2, Rs.bind_ok, der_lst', any_map (fun _ => false)]
  simp
end Ms

set_option Elab.async false
set_option linter.all false
set_option autoImplicit false
set_option maxRecDepth 100000
set_option maxHeartbeats 4000000
namespace Ms
/-! ## A deck has no fault -/
structure GSls (ms : List Ma) (sl : List Sl) : Prop where
  hi : sl.length ≤ 40
  ok : ∀ t ∈ sl, t.ok
  nod : (sl.map Sl.nm).Nodup
  un : ∀ t ∈ sl, t.ms ∈ ms.map Ma.nm
  lk : ∀ t ∈ sl, ∀ q ∈ t.links, q.2.inB (sl.map Sl.nm) = true
def slD (sl : List Sl) : D := .tup (sl.map Sl.d)
theorem fault_slides (k : Nat) (s : Sto) {ms : List Ma} {sl : List Sl} (hm : ms.length ≤ 12) (h : GSls ms sl) : callK G T (k + 7) n_fault_of_slides [msD ms, slD sl] s = .ok .non s := by
  have hlen : (sl.map Sl.d).length = sl.length := List.length_map ..
  have h40 := h.hi
  have hb : ∀ s, b1 .len (der s (slD sl)) = some (.int (sl.length : Int)) := fun s => by
    show some (D.int ((sl.map Sl.d).length : Int)) = _
    rw [hlen]
  rw [call_eq T_fault_of_slides rfl]
  apply runB_rt
  have st : startE 7 [msD ms, slD sl] = [.val (msD ms), .val (slD sl), .non, .non, .non, .non, .non] := rfl
  rw [st]
  unfold F_fault_of_slides
  obtain ⟨N, hN⟩ : ∃ N, N = D.lst ((sl.map Sl.nm).map .str) := ⟨_, rfl⟩
  obtain ⟨O, hO⟩ : ∃ O, O = D.lst ((ms.map Ma.nm).map .str) := ⟨_, rfl⟩
  have f1 : evE (callK G T (k + 6)) G (.fw (.v 1) [1] 2 (.not (.call 40 (.cons (.ix (.v 1) (.v 0)) .nil)))) [.val (msD ms), .val (slD sl), .non, .non, .non, .non, .non] s = .ok .non s := by
    refine fw_none (x := slD sl) (vs := [slD sl]) (ev_v rfl) (hb s) (by omega) rfl fun i hi => ?_
    have e1 := ev_ixt (C := callK G T (k + 6)) (e := startE 2 [.int (i : Int), slD sl]) (s := s) (l := sl.map Sl.d) (a := .v 1) (b := .v 0) (ev_v rfl) (ev_v rfl) (by omega)
    rw [List.getElem_map] at e1
    have e2 := slide_true k s (h.ok sl[i] (List.getElem_mem hi))
    rw [ev_not ((ev_call1 e1).trans e2)]
    rfl
  rw [ss_set f1]
  have s1 : ([.val (msD ms), .val (slD sl), .non, .non, .non, .non, .non] : Env).set 2 (.val .non) = [.val (msD ms), .val (slD sl), .val .non, .non, .non, .non, .non] := rfl
  rw [s1, ss_skip (ev_notN_non (ev_v rfl)), evSs_cons_1, evS_own_1]
  have f2 : evF (callK G T (k + 6)) G (.lc (.ix (.v 4) (.k (.int 0))) (.name 4) (.seq (.v 1)) .none [4]) [.val (msD ms), .val (slD sl), .val .non, .non, .non, .non, .non] s = .ok ((sl.map Sl.nm).map .str) s := by
    rw [evF_lc_3, evIt_seq_0, ev_v rfl]
    show ((Rs.ok (sl.map Sl.d) s).bind _) = _
    rw [Rs.bind_ok]
    simp only [decide_eq_true (le_lim (n := (sl.map Sl.d).length) (m := 40) (by omega) (by decide))]
    rw [List.map_map, lc_map Sl.d (D.str ∘ Sl.nm) sl fun m hm => ⟨_, rfl, by simp, by
      rw [evE_ix_23, ev_v rfl, Rs.bind_ok, evE_k_1, Rs.bind_ok]
      show Rs.of (index (.tup _) _) _ = _
      rw [index_0]; rfl⟩]
    rfl
  rw [f2, Rs.bindS_ok, SRs.bind_nx, evSs_frz_2]
  have s2 : frzE 3 (([.val (msD ms), .val (slD sl), .val .non, .non, .non, .non, .non] : Env).set 3 (.own ((sl.map Sl.nm).map .str))) = some [.val (msD ms), .val (slD sl), .val .non, .val N, .non, .non, .non] := by rw [hN]; rfl
  simp only [s2]
  have f3 : evE (callK G T (k + 6)) G (.fw (.v 1) [3] 2 (.cmp .isin (.ix (.v 1) (.v 0)) (.fl (.slc (.v 1) .none (.some (.v 0)))))) [.val (msD ms), .val (slD sl), .val .non, .val N, .non, .non, .non] s = .ok .non s := by
    refine fw_none (x := slD sl) (vs := [N]) (ev_v rfl) (hb s) (by omega) rfl fun i hi => ?_
    exact ahead_no (l := sl.map Sl.nm) rfl (by rw [hN]; rfl) h.nod (by simpa using hi)
  rw [ss_set f3]
  have s3 : ([.val (msD ms), .val (slD sl), .val .non, .val N, .non, .non, .non] : Env).set 2 (.val .non) = [.val (msD ms), .val (slD sl), .val .non, .val N, .non, .non, .non] := rfl
  rw [s3, ss_skip (ev_notN_non (ev_v rfl)), evSs_cons_1, evS_own_1]
  have f4 : evF (callK G T (k + 6)) G (.lc (.ix (.v 6) (.k (.int 0))) (.name 6) (.seq (.v 0)) .none [6]) [.val (msD ms), .val (slD sl), .val .non, .val N, .non, .non, .non] s = .ok ((ms.map Ma.nm).map .str) s := by
    rw [evF_lc_3, evIt_seq_0, ev_v rfl]
    show ((Rs.ok (ms.map Ma.d) s).bind _) = _
    rw [Rs.bind_ok]
    simp only [decide_eq_true (le_lim (n := (ms.map Ma.d).length) (m := 12) (by rw [List.length_map]; omega) (by decide))]
    rw [List.map_map, lc_map Ma.d (D.str ∘ Ma.nm) ms fun m hm => ⟨_, rfl, by simp, by
      rw [evE_ix_23, ev_v rfl, Rs.bind_ok, evE_k_1, Rs.bind_ok]
      show Rs.of (index (.tup _) _) _ = _
      rw [index_0]; rfl⟩]
    rfl
  rw [f4, Rs.bindS_ok, SRs.bind_nx, evSs_frz_2]
  have s4 : frzE 5 (([.val (msD ms), .val (slD sl), .val .non, .val N, .non, .non, .non] : Env).set 5 (.own ((ms.map Ma.nm).map .str))) = some [.val (msD ms), .val (slD sl), .val .non, .val N, .non, .val O, .non] := by rw [hO]; rfl
  simp only [s4]
  have f5 : evE (callK G T (k + 6)) G (.fw (.v 1) [5, 1] 3 (.cmp .notin (.ix (.ix (.v 2) (.v 0)) (.k (.int 1))) (.v 1))) [.val (msD ms), .val (slD sl), .val .non, .val N, .non, .val O, .non] s = .ok .non s := by
    refine fw_none (x := slD sl) (vs := [O, slD sl]) (ev_v rfl) (hb s) (by omega) rfl fun i hi => ?_
    have e1 := ev_ixt (C := callK G T (k + 6)) (e := startE 3 [.int (i : Int), O, slD sl]) (s := s) (l := sl.map Sl.d) (a := .v 2) (b := .v 0) (ev_v rfl) (ev_v rfl) (by omega)
    rw [List.getElem_map] at e1
    have e2 : evE (callK G T (k + 6)) G (.ix (.ix (.v 2) (.v 0)) (.k (.int 1))) (startE 3 [.int (i : Int), O, slD sl]) s = .ok (.str sl[i].ms) s := by
      rw [evE_ix_23, e1, Rs.bind_ok, evE_k_1, Rs.bind_ok]
      show Rs.of (index (.tup _) _) _ = _
      rw [index_1]; rfl
    have e3 := isIn_strs sl[i].ms (ms.map Ma.nm)
    rw [decide_eq_true (h.un sl[i] (List.getElem_mem hi)), ← hO] at e3
    rw [evE_cmp_5, e2, Rs.bind_ok, ev_v (d := O) rfl, Rs.bind_ok]
    have dO : der s O = O := by rw [hO]; rfl
    rw [dO]
    show Rs.of (((isIn (.str sl[i].ms) O).map (fun x => !x)).map D.bl) s = _
    rw [e3]
    rfl
  rw [ss_set f5]
  have s5 : ([.val (msD ms), .val (slD sl), .val .non, .val N, .non, .val O, .non] : Env).set 2 (.val .non) = [.val (msD ms), .val (slD sl), .val .non, .val N, .non, .val O, .non] := rfl
  rw [s5, ss_skip (ev_notN_non (ev_v rfl))]
  have f6 : evE (callK G T (k + 6)) G (.fw (.v 1) [3, 1] 3 (.call 42 (.cons (.ix (.v 2) (.v 0)) (.cons (.v 1) .nil)))) [.val (msD ms), .val (slD sl), .val .non, .val N, .non, .val O, .non] s = .ok .non s := by
    refine fw_none (x := slD sl) (vs := [N, slD sl]) (ev_v rfl) (hb s) (by omega) rfl fun i hi => ?_
    have e1 := ev_ixt (C := callK G T (k + 6)) (e := startE 3 [.int (i : Int), N, slD sl]) (s := s) (l := sl.map Sl.d) (a := .v 2) (b := .v 0) (ev_v rfl) (ev_v rfl) (by omega)
    rw [List.getElem_map] at e1
    have hmem := List.getElem_mem (l := sl) hi
    have e2 := astray_false (k + 5) s (h.ok _ hmem).ll (h.lk _ hmem)
    rw [← hN] at e2
    exact (ev_call2 (d2 := N) e1 (ev_v rfl)).trans e2
  rw [ss_set f6, s5, ss_skip (ev_notN_non (ev_v rfl))]
  exact ss_ret (by rw [evE_k_1])
structure GDeck (ms : List Ma) (sl : List Sl) : Prop where
  m : GMs ms
  s : GSls ms sl
def dkD (ms : List Ma) (sl : List Sl) : D := .tup [msD ms, slD sl]
theorem fault_none (k : Nat) (s : Sto) {ms : List Ma} {sl : List Sl} (h : GDeck ms sl) : callK G T (k + 9) n_fault_of [dkD ms sl] s = .ok .non s := by
  have e1 := fault_masters k s h.m
  have e2 := fault_slides (k + 1) s h.m.hi h.s
  rw [call_eq T_fault_of rfl]
  apply runB_rt
  unfold F_fault_of
  have g24 : G 24 = .int 12 := by kernel_rfl
  have g11 : G 11 = .int 40 := by kernel_rfl
  obtain ⟨a, ha⟩ : ∃ a : Int, a = ((ms.map Ma.d).length : Int) := ⟨_, rfl⟩
  obtain ⟨b, hb⟩ : ∃ b : Int, b = ((sl.map Sl.d).length : Int) := ⟨_, rfl⟩
  have a1 : (1 : Int) ≤ a := by rw [ha, List.length_map]; have := h.m.lo; omega
  have a2 : a ≤ 12 := by rw [ha, List.length_map]; have := h.m.hi; omega
  have b2 : ¬ (40 : Int) < b := by rw [hb, List.length_map]; have := h.s.hi; omega
  obtain ⟨e, he⟩ : ∃ e : Env, e = [.val (dkD ms sl), .val (msD ms), .val (slD sl)] := ⟨_, rfl⟩
  rw [ss_skip (s' := s) (by simp [startE, dkD, isTy, truthR, truth, b1, cmpop, pyEq, okEq])]
  rw [ss_unp (s' := s) (ds := [msD ms, slD sl]) (e' := e) (by simp [startE, dkD]) (by rw [he]; rfl)]
  have lm : evE (callK G T (k + 8)) G (.b1 .len (.v 1)) e s = .ok (.int a) s := by
    rw [evE_b1_16, ev_v (d := msD ms) (by rw [he]; rfl), ha]; rfl
  have lsl : evE (callK G T (k + 8)) G (.b1 .len (.v 2)) e s = .ok (.int b) s := by
    rw [evE_b1_16, ev_v (d := slD sl) (by rw [he]; rfl), hb]; rfl
  have t1 : evE (callK G T (k + 8)) G (.isin (.v 1) .tup) e s = .ok (.bl true) s := by
    rw [evE_isin_15, ev_v (d := msD ms) (by rw [he]; rfl)]; rfl
  have t2 : evE (callK G T (k + 8)) G (.isin (.v 2) .tup) e s = .ok (.bl true) s := by
    rw [evE_isin_15, ev_v (d := slD sl) (by rw [he]; rfl)]; rfl
  have c1 : evE (callK G T (k + 8)) G (.chain .le .le (.k (.int 1)) (.b1 .len (.v 1)) (.g 24)) e s = .ok (.bl true) s := by
    rw [evE_chain_6, evE_k_1, Rs.bind_ok, lm, Rs.bind_ok]
    have q1 : cmpop .le (der s (.int 1)) (der s (.int a)) = some true := by
      show some (decide ((1 : Int) ≤ a)) = _
      rw [decide_eq_true a1]
    have q2 : cmpop .le (der s (.int a)) (der s (G 24)) = some true := by
      rw [g24]
      show some (decide (a ≤ (12 : Int))) = _
      rw [decide_eq_true a2]
    rw [q1, Rs.of_some, Rs.bind_ok]
    show (evE _ _ _ _ _).bind _ = _
    rw [evE_g_2, Rs.bind_ok, q2]
    rfl
  rw [ss_skip (s' := s) (by
    rw [evE_or_10, ev_not t1, Rs.bind_ok, vtruth_bl, Rs.bind_ok]
    show evE _ _ _ _ _ = _
    rw [evE_or_10, ev_not t2, Rs.bind_ok, vtruth_bl, Rs.bind_ok]
    show evE _ _ _ _ _ = _
    rw [ev_not c1]
    rfl)]
  rw [ss_skip (s' := s) (by
    rw [evE_cmp_5, lsl, Rs.bind_ok, evE_g_2, Rs.bind_ok, g11]
    show Rs.of (some (D.bl (decide ((40 : Int) < b)))) s = _
    rw [decide_eq_false b2]
    rfl)]
  apply ss_ret
  rw [evE_or_10, (ev_call1 (ev_v (d := msD ms) (by rw [he]; rfl))).trans e1, Rs.bind_ok]
  show evE _ _ _ _ _ = _
  exact (ev_call2 (d := msD ms) (d2 := slD sl) (ev_v (by rw [he]; rfl)) (ev_v (by rw [he]; rfl))).trans e2
theorem must_deck (k : Nat) (s : Sto) {ms : List Ma} {sl : List Sl} (h : GDeck ms sl) : callK G T (k + 10) n_must_be_deck [dkD ms sl] s = .ok .non s := by
  have e1 := fault_none k s h
  rw [call_eq T_must_be_deck rfl]
  simp [runB, F_must_be_deck, startE, e1, truthR, truth]
end Ms

set_option Elab.async false
set_option linter.all false
set_option autoImplicit false
set_option maxRecDepth 100000
set_option maxHeartbeats 4000000
namespace Ms
/-! ## Draws of expressions -/
theorem Dr.eq {α : Type} {p : Pn} {c : Int} {m m' : Sto → Rs α} {P : α → Prop} (h : Dr p c m P) (e : ∀ s, m' s = m s) : Dr p c m' P := by
  rw [show m' = m from funext e]; exact h
theorem dr_ev {p : Pn} {k : Nat} {e : Env} {b : E} {m : Int} (h0 : e.get 0 = some (.obj p.i)) (hb : ∀ s, evE (callK G T (k + 1)) G b e s = .ok (.int m) s) (hm : 0 < m) (hm2 : m < 1073741824) : Dr p 1 (evE (callK G T (k + 1)) G (.call 201 (.cons (.v 0) (.cons b .nil))) e) (fun d => ∃ r, d = .int r ∧ 0 ≤ r ∧ r < m) :=
  (dr_draw p k hm hm2).eq fun s => ev_call2 (ev_v h0) (hb s)
theorem dr_evk {p : Pn} {k : Nat} {e : Env} {m : Int} (h0 : e.get 0 = some (.obj p.i)) (hm : 0 < m) (hm2 : m < 1073741824) : Dr p 1 (evE (callK G T (k + 1)) G (.call 201 (.cons (.v 0) (.cons (.k (.int m)) .nil))) e) (fun d => ∃ r, d = .int r ∧ 0 ≤ r ∧ r < m) :=
  dr_ev h0 (fun s => by rw [evE_k_1]) hm hm2
def Ds (P : D → Prop) (n : Nat) (ds : List D) : Prop := ds.length = n ∧ ∀ d ∈ ds, P d
theorem dr_nil {p : Pn} {C : Calls} {e : Env} {P : D → Prop} {w : Int} : Dr p (((0 : Nat) : Int) * w) (evEs C G .nil e) (Ds P 0) :=
  ((Dr.ok (p := p) (d := ([] : List D)) (P := Ds P 0) ⟨rfl, fun d h => by cases h⟩).eq fun s => by rw [evEs_nil_0]).imp (by simp) fun _ h => h
theorem dr_cons {p : Pn} {C : Calls} {e : Env} {P : D → Prop} {a : E} {r : Es} {n : Nat} {w : Int} (hw : 0 ≤ w) (h : Dr p w (evE C G a e) P) (hr : Dr p ((n : Int) * w) (evEs C G r e) (Ds P n)) : Dr p (((n + 1 : Nat) : Int) * w) (evEs C G (.cons a r) e) (Ds P (n + 1)) := by
  have h0 : 0 ≤ (n : Int) * w := Int.mul_nonneg (by omega) hw
  have e1 : ((n + 1 : Nat) : Int) * w = w + ((n : Int) * w + 0) := by rw [Int.natCast_add, Int.add_mul]; simp; omega
  rw [e1]
  exact (Dr.bind h (fun d hd => Dr.bind (Q := Ds P (n + 1)) hr (fun xs hx => Dr.ok ⟨by rw [List.length_cons, hx.1], fun y hy => (List.mem_cons.mp hy).elim (fun e => e ▸ hd) (hx.2 y)⟩) (by omega)) (by omega)).eq fun s => by rw [evEs_cons_1]
theorem dr_k {p : Pn} {C : Calls} {e : Env} {P : D → Prop} {d : D} {w : Int} (hw : 0 ≤ w) (h : P d) : Dr p w (evE C G (.k d) e) P :=
  ((Dr.ok (p := p) h).eq fun s => by rw [evE_k_1]).imp hw fun _ h => h
theorem dr_pure {p : Pn} {C : Calls} {a : E} {e : Env} {P : D → Prop} {d : D} {w : Int} (hw : 0 ≤ w) (h : ∀ s, evE C G a e s = .ok d s) (hp : P d) : Dr p w (evE C G a e) P :=
  ((Dr.ok (p := p) hp).eq h).imp hw fun _ h => h
theorem dr_int {p : Pn} {k : Nat} {e : Env} {m : Int} {P : D → Prop} (h0 : e.get 0 = some (.obj p.i)) (hm : 0 < m) (hm2 : m < 1073741824) (h : ∀ r, 0 ≤ r → r < m → P (.int r)) : Dr p 1 (evE (callK G T (k + 1)) G (.call 201 (.cons (.v 0) (.cons (.k (.int m)) .nil))) e) P :=
  (dr_evk h0 hm hm2).imp (by omega) fun d hd => by
    obtain ⟨r, rfl, r0, r1⟩ := hd
    exact h r r0 r1
/-- a number + a draw -/
theorem dr_add {p : Pn} {k : Nat} {e : Env} {a : E} {v m : Int} {P : D → Prop} (ha : ∀ s, evE (callK G T (k + 1)) G a e s = .ok (.int v) s) (h0 : e.get 0 = some (.obj p.i)) (hm : 0 < m) (hm2 : m < 1073741824) (h : ∀ r, 0 ≤ r → r < m → P (.int (v + r))) : Dr p 1 (evE (callK G T (k + 1)) G (.bin .add a (.call 201 (.cons (.v 0) (.cons (.k (.int m)) .nil)))) e) P := by
  intro a' q ha' hq hb
  obtain ⟨d, a1, q1, e1, l1, u1, k1, r, rfl, r0, r1⟩ := dr_evk (k := k) h0 hm hm2 a' q ha' hq hb
  refine ⟨.int (v + r), a1, q1, ?_, l1, u1, k1, h r r0 r1⟩
  rw [evE_bin_3, ha, Rs.bind_ok, e1, Rs.bind_ok]
  rfl
/-- [..][a draw] -/
theorem dr_pick {p : Pn} {k : Nat} {e : Env} {as : Es} {n : Nat} {c : Int} {P : D → Prop} (h0 : e.get 0 = some (.obj p.i)) (hc : 0 ≤ c) (hn : 0 < n) (hn2 : n ≤ 1000) (h : Dr p c (evEs (callK G T (k + 1)) G as e) (Ds P n)) :
    Dr p (c + (1 + 0)) (evE (callK G T (k + 1)) G (.ix (.fl (.lst as)) (.call 201 (.cons (.v 0) (.cons (.k (.int (n : Int))) .nil)))) e) P := by
  intro a q ha hq hb
  obtain ⟨ds, a1, q1, e1, l1, u1, k1, hd⟩ := h a q ha hq (by omega)
  obtain ⟨y, a2, q2, e2, l2, u2, k2, r, rfl, r0, r1⟩ := dr_evk (e := e) (k := k) h0 (m := (n : Int)) (by omega) (by omega) a1 q1 (by omega) k1 (by omega)
  obtain ⟨i, rfl⟩ : ∃ i : Nat, r = (i : Int) := ⟨r.toNat, by omega⟩
  have hi : i < ds.length := by rw [hd.1]; omega
  refine ⟨ds[i], a2, q2, ?_, by omega, by omega, k2, hd.2 _ (List.getElem_mem hi)⟩
  have hl : decide (ds.length ≤ lim) = true := decide_eq_true (le_lim (m := 1000) (by rw [hd.1]; exact hn2) (by decide))
  rw [evE_ix_23, evE_fl_26, evF_lst_0, e1, Rs.bind_ok]
  simp only [hl]
  rw [Rs.bind_ok, Rs.bind_ok, e2, Rs.bind_ok, der_lst', ix_nat hi]
  rfl
theorem dr_ret {p : Pn} {C : Calls} {c : Int} {n : Nat} {b r : Ss} {a : E} {e : Env} {ds : List D} {P : D → Prop} (h : Dr p c (evE C G a e) P) (he : ∀ s, evSs C G b (startE n ds) s = evSs C G (.cons (.ret a) r) e s) : Dr p c (runB C G n b ds) P := fun a' q ha hq hb => by
  obtain ⟨d, a2, q2, e2, h2⟩ := h a' q ha hq hb
  exact ⟨d, a2, q2, runB_rt ((he _).trans (ss_ret e2)), h2⟩
theorem ss_take_ret {C : Calls} {c a : E} {r : Ss} {e : Env} {s : Sto} (h : evE C G c e s = .ok (.bl true) s) : evSs C G (.cons (.ifs c (.cons (.ret a) .nil) .nil) r) e s = evSs C G (.cons (.ret a) .nil) e s := by
  rw [ss_take h, evSs_cons_1, evS_ret_14]
  cases evE C G a e s <;> rfl
def ifc : Ss → E
  | .cons (.ifs c _ _) _ => c
  | _ => .bad
def thn : Ss → Ss
  | .cons (.ifs _ t _) _ => t
  | _ => .nil
def nxt : Ss → Ss
  | .cons _ r => r
  | r => r
def reta : Ss → E
  | .cons (.ret a) _ => a
  | _ => .bad
theorem worth_dr (p : Pn) (k : Nat) {j : Nat} (hj : j < 6) : Dr p 6 (callK G T (k + 2) n__law_worth [.obj p.i, tr j]) (GWorth j) := by
  have hN : ∀ x, nameB x = true → GWorth 5 (.str x) := fun x h => .inr ⟨rfl, x, rfl, h⟩
  have hI : ∀ (j : Nat) (i : Int), j < 5 → loT j ≤ i → i ≤ hiT j → GWorth j (.int i) := fun j i h h1 h2 => .inl ⟨h, i, rfl, h1, h2⟩
  refine (Dr.eq (m := runB (callK G T (k + 1)) G 2 F__law_worth [.obj p.i, tr j]) ?_ fun s => by rw [call_eq T__law_worth rfl])
  have h0 : (startE 2 [.obj p.i, tr j]).get 0 = some (.obj p.i) := rfl
  have w1 : (0 : Int) ≤ 1 := by decide
  have two : ∀ j, j = 0 ∨ j = 1 → Dr p 6 (runB (callK G T (k + 1)) G 2 F__law_worth [.obj p.i, tr j]) (GWorth j) := fun j hj => by
    have hl : ∀ i : Int, -999 ≤ i → i ≤ 999 → GWorth j (.int i) := fun i h1 h2 => hI j i (by omega) (by rcases hj with rfl | rfl <;> exact h1) (by rcases hj with rfl | rfl <;> exact h2)
    have key : Dr p 6 (evE (callK G T (k + 1)) G (reta (thn (nxt F__law_worth))) (startE 2 [.obj p.i, tr j])) (GWorth j) := by
      simp only [F__law_worth, nxt, thn, reta]
      refine (dr_pick (n := 4) (c := ((4 : Nat) : Int) * 1) rfl (by decide) (by decide) (by decide) ?_).imp (by decide) fun _ h => h
      refine dr_cons w1 ?_ (dr_cons w1 ?_ (dr_cons w1 ?_ (dr_cons w1 ?_ dr_nil)))
      · exact dr_int rfl (by decide) (by decide) fun r r0 r1 => hl r (by omega) (by omega)
      · exact dr_add (v := -999) (fun s => by rw [evE_neg_4, evE_k_1]; rfl) rfl (by decide) (by decide) fun r r0 r1 => hl (-999 + r) (by omega) (by omega)
      · exact dr_pure w1 (d := .int (-999)) (fun s => by rw [evE_neg_4, evE_k_1]; rfl) (hl _ (by omega) (by omega))
      · exact dr_k w1 (hl 999 (by omega) (by omega))
    refine dr_ret key (r := .nil) fun s => ?_
    have c1 : evE (callK G T (k + 1)) G (ifc F__law_worth) (startE 2 [.obj p.i, tr j]) s = .ok (.bl false) s := by
      rcases hj with rfl | rfl <;> kernel_rfl
    have c2 : evE (callK G T (k + 1)) G (ifc (nxt F__law_worth)) (startE 2 [.obj p.i, tr j]) s = .ok (.bl true) s := by
      rcases hj with rfl | rfl <;> kernel_rfl
    exact (ss_skip c1).trans (ss_take_ret c2)
  have six : Dr p 6 (runB (callK G T (k + 1)) G 2 F__law_worth [.obj p.i, tr 5]) (GWorth 5) := by
    have key : Dr p 6 (evE (callK G T (k + 1)) G (reta (thn F__law_worth)) (startE 2 [.obj p.i, tr 5])) (GWorth 5) := by
      simp only [F__law_worth, nxt, thn, reta]
      refine (dr_pick (n := 5) (c := ((5 : Nat) : Int) * 1) rfl (by decide) (by decide) (by decide) ?_).imp (by decide) fun _ h => h
      exact dr_cons w1 (dr_k w1 (hN _ (by kernel_rfl))) (dr_cons w1 (dr_k w1 (hN _ (by kernel_rfl))) (dr_cons w1 (dr_k w1 (hN _ (by kernel_rfl))) (dr_cons w1 (dr_k w1 (hN _ (by kernel_rfl))) (dr_cons w1 (dr_k w1 (hN _ (by kernel_rfl))) dr_nil))))
    refine dr_ret key (r := .nil) fun s => ?_
    have c1 : evE (callK G T (k + 1)) G (ifc F__law_worth) (startE 2 [.obj p.i, tr 5]) s = .ok (.bl true) s := by kernel_rfl
    exact ss_take_ret c1
  have five : Dr p 6 (runB (callK G T (k + 1)) G 2 F__law_worth [.obj p.i, tr 4]) (GWorth 4) := by
    have hl : ∀ i : Int, 1 ≤ i → i ≤ 99 → GWorth 4 (.int i) := fun i h1 h2 => hI 4 i (by omega) h1 h2
    have key : Dr p 6 (evE (callK G T (k + 1)) G (reta (thn (nxt (nxt F__law_worth)))) (startE 2 [.obj p.i, tr 4])) (GWorth 4) := by
      simp only [F__law_worth, nxt, thn, reta]
      refine (dr_pick (n := 5) (c := ((5 : Nat) : Int) * 1) rfl (by decide) (by decide) (by decide) ?_).imp (by decide) fun _ h => h
      refine dr_cons w1 ?_ (dr_cons w1 ?_ (dr_cons w1 ?_ (dr_cons w1 ?_ (dr_cons w1 ?_ dr_nil))))
      · exact dr_k w1 (hl _ (by omega) (by omega))
      · exact dr_k w1 (hl _ (by omega) (by omega))
      · exact dr_k w1 (hl _ (by omega) (by omega))
      · exact dr_add (v := 1) (fun s => by rw [evE_k_1]) rfl (by decide) (by decide) fun r r0 r1 => hl (1 + r) (by omega) (by omega)
      · exact dr_k w1 (hl _ (by omega) (by omega))
    refine dr_ret key (r := .nil) fun s => ?_
    have c1 : evE (callK G T (k + 1)) G (ifc F__law_worth) (startE 2 [.obj p.i, tr 4]) s = .ok (.bl false) s := by kernel_rfl
    have c2 : evE (callK G T (k + 1)) G (ifc (nxt F__law_worth)) (startE 2 [.obj p.i, tr 4]) s = .ok (.bl false) s := by kernel_rfl
    have c3 : evE (callK G T (k + 1)) G (ifc (nxt (nxt F__law_worth))) (startE 2 [.obj p.i, tr 4]) s = .ok (.bl true) s := by kernel_rfl
    exact (ss_skip c1).trans ((ss_skip c2).trans (ss_take_ret c3))
  have rest : ∀ j, j = 2 ∨ j = 3 → Dr p 6 (runB (callK G T (k + 1)) G 2 F__law_worth [.obj p.i, tr j]) (GWorth j) := fun j hj => by
    have hl : ∀ i : Int, 1 ≤ i → i ≤ 999 → GWorth j (.int i) := fun i h1 h2 => hI j i (by omega) (by rcases hj with rfl | rfl <;> exact h1) (by rcases hj with rfl | rfl <;> exact h2)
    have key : Dr p 6 (evE (callK G T (k + 1)) G (reta (nxt (nxt (nxt F__law_worth)))) (startE 2 [.obj p.i, tr j])) (GWorth j) := by
      simp only [F__law_worth, nxt, thn, reta]
      refine (dr_pick (n := 5) (c := ((5 : Nat) : Int) * 1) rfl (by decide) (by decide) (by decide) ?_).imp (by decide) fun _ h => h
      refine dr_cons w1 ?_ (dr_cons w1 ?_ (dr_cons w1 ?_ (dr_cons w1 ?_ (dr_cons w1 ?_ dr_nil))))
      · exact dr_add (v := 1) (fun s => by rw [evE_k_1]) rfl (by decide) (by decide) fun r r0 r1 => hl (1 + r) (by omega) (by omega)
      · exact dr_add (v := 1) (fun s => by rw [evE_k_1]) rfl (by decide) (by decide) fun r r0 r1 => hl (1 + r) (by omega) (by omega)
      · exact dr_add (v := 1) (fun s => by rw [evE_k_1]) rfl (by decide) (by decide) fun r r0 r1 => hl (1 + r) (by omega) (by omega)
      · exact dr_k w1 (hl _ (by omega) (by omega))
      · exact dr_k w1 (hl _ (by omega) (by omega))
    refine dr_ret key (r := .nil) fun s => ?_
    have c1 : evE (callK G T (k + 1)) G (ifc F__law_worth) (startE 2 [.obj p.i, tr j]) s = .ok (.bl false) s := by
      rcases hj with rfl | rfl <;> kernel_rfl
    have c2 : evE (callK G T (k + 1)) G (ifc (nxt F__law_worth)) (startE 2 [.obj p.i, tr j]) s = .ok (.bl false) s := by
      rcases hj with rfl | rfl <;> kernel_rfl
    have c3 : evE (callK G T (k + 1)) G (ifc (nxt (nxt F__law_worth))) (startE 2 [.obj p.i, tr j]) s = .ok (.bl false) s := by
      rcases hj with rfl | rfl <;> kernel_rfl
    exact (ss_skip c1).trans ((ss_skip c2).trans (ss_skip c3))
  rcases (by omega : j = 0 ∨ j = 1 ∨ j = 2 ∨ j = 3 ∨ j = 4 ∨ j = 5) with rfl | rfl | rfl | rfl | rfl | rfl
  · exact two 0 (.inl rfl)
  · exact two 1 (.inr rfl)
  · exact rest 2 (.inl rfl)
  · exact rest 3 (.inr rfl)
  · exact five
  · exact six
end Ms

set_option Elab.async false
set_option linter.all false
set_option autoImplicit false
set_option maxRecDepth 100000
set_option maxHeartbeats 4000000
namespace Ms
/-! ## Draws of statements -/
/-- with at most c draws it returns a value with P -/
def DrR (p : Pn) (c : Int) (m : Sto → SRs) (P : D → Prop) : Prop :=
  ∀ a q, 0 ≤ a → 0 ≤ q → a + c ≤ big → ∃ d a' q', m (p.st a q) = .rt d (p.st a' q') ∧ a ≤ a' ∧ a' ≤ a + c ∧ 0 ≤ q' ∧ P d
theorem drR_run {p : Pn} {C : Calls} {c : Int} {n : Nat} {b : Ss} {ds : List D} {P : D → Prop} (h : DrR p c (evSs C G b (startE n ds)) P) : Dr p c (runB C G n b ds) P := fun a q ha hq hb => by
  obtain ⟨d, a', q', e, r⟩ := h a q ha hq hb
  exact ⟨d, a', q', runB_rt e, r⟩
theorem DrR.imp {p : Pn} {c c' : Int} {m : Sto → SRs} {P P' : D → Prop} (h : DrR p c m P) (hc : c ≤ c') (hp : ∀ d, P d → P' d) : DrR p c' m P' := fun a q ha hq hb => by
  obtain ⟨d, a', q', e, h1, h2, h3, h4⟩ := h a q ha hq (by omega)
  exact ⟨d, a', q', e, h1, by omega, h3, hp d h4⟩
theorem DrR.eq {p : Pn} {c : Int} {m m' : Sto → SRs} {P : D → Prop} (h : DrR p c m P) (e : ∀ s, m' s = m s) : DrR p c m' P := by
  rw [show m' = m from funext e]; exact h
theorem drR_ret {p : Pn} {C : Calls} {c : Int} {a : E} {r : Ss} {e : Env} {P : D → Prop} (h : Dr p c (evE C G a e) P) : DrR p c (evSs C G (.cons (.ret a) r) e) P := fun a' q ha hq hb => by
  obtain ⟨d, a2, q2, e2, h2⟩ := h a' q ha hq hb
  exact ⟨d, a2, q2, ss_ret e2, h2⟩
theorem drR_set {p : Pn} {C : Calls} {c1 c2 : Int} {a : E} {i : Nat} {r : Ss} {e : Env} {P Q : D → Prop} (h : Dr p c1 (evE C G a e) P) (hc : 0 ≤ c2) (hr : ∀ d, P d → DrR p c2 (evSs C G r (e.set i (.val d))) Q) : DrR p (c1 + c2) (evSs C G (.cons (.set i a) r) e) Q := fun a' q ha hq hb => by
  obtain ⟨d, a1, q1, e1, l1, u1, k1, p1⟩ := h a' q ha hq (by omega)
  obtain ⟨d2, a2, q2, e2, l2, u2, k2, p2⟩ := hr d p1 a1 q1 (by omega) k1 (by omega)
  exact ⟨d2, a2, q2, (ss_set e1).trans e2, by omega, by omega, k2, p2⟩
theorem drR_own {p : Pn} {C : Calls} {c1 c2 : Int} {f : F} {i : Nat} {r : Ss} {e : Env} {P : List D → Prop} {Q : D → Prop} (h : Dr p c1 (evF C G f e) P) (hc : 0 ≤ c2) (hr : ∀ l, P l → DrR p c2 (evSs C G r (e.set i (.own l))) Q) : DrR p (c1 + c2) (evSs C G (.cons (.own i f) r) e) Q := fun a' q ha hq hb => by
  obtain ⟨d, a1, q1, e1, l1, u1, k1, p1⟩ := h a' q ha hq (by omega)
  obtain ⟨d2, a2, q2, e2, l2, u2, k2, p2⟩ := hr d p1 a1 q1 (by omega) k1 (by omega)
  refine ⟨d2, a2, q2, ?_, by omega, by omega, k2, p2⟩
  rw [evSs_cons_1, evS_own_1, e1, Rs.bindS_ok, SRs.bind_nx]
  exact e2
/-- a loop, then the rest -/
theorem drR_for {p : Pn} {C : Calls} {c1 c2 : Int} {tg : Tg} {it : Src} {b r : Ss} {e : Env} {P : Env → Prop} {Q : D → Prop} {ds : List D} (hi : ∀ s, evIt C G it e s = .ok ds s) (h : DrS p c1 (forGo tg (evSs C G b) ds e) P) (hc : 0 ≤ c2) (hr : ∀ e, P e → DrR p c2 (evSs C G r e) Q) : DrR p (c1 + c2) (evSs C G (.cons (.for_ tg it b) r) e) Q := fun a' q ha hq hb => by
  obtain ⟨e', a1, q1, e1, l1, u1, k1, p1⟩ := h a' q ha hq (by omega)
  obtain ⟨d2, a2, q2, e2, l2, u2, k2, p2⟩ := hr e' p1 a1 q1 (by omega) k1 (by omega)
  refine ⟨d2, a2, q2, ?_, by omega, by omega, k2, p2⟩
  rw [evSs_cons_1, evS_for_17, hi, Rs.bindS_ok, e1, SRs.bind_nx]
  exact e2
/-! ### texts of the signs of lines -/
def SgT (x : List Nat) : Prop := ∀ c ∈ x, c ∈ signs
theorem joinC_sg {sep : List Nat} (hs : SgT sep) : ∀ {l : List (List Nat)}, (∀ x ∈ l, SgT x) → SgT (joinC sep l)
  | [], _ => fun c h => by cases h
  | [x], h => h x List.mem_cons_self
  | x :: y :: r, h => fun c hc => by
    rw [joinC] at hc
    rcases List.mem_append.mp hc with hc | hc
    · exact h x List.mem_cons_self c hc
    · rcases List.mem_append.mp hc with hc | hc
      · exact hs c hc
      · exact joinC_sg hs (l := y :: r) (fun z hz => h z (List.mem_cons_of_mem _ hz)) c hc
theorem joinC_len {sep : List Nat} {w : Nat} : ∀ {l : List (List Nat)}, (∀ x ∈ l, x.length ≤ w) → (joinC sep l).length ≤ l.length * (w + sep.length)
  | [], _ => by simp [joinC]
  | [x], h => by
    have := h x List.mem_cons_self
    simp [joinC]
    omega
  | x :: y :: r, h => by
    have h1 := h x List.mem_cons_self
    have ih := joinC_len (sep := sep) (l := y :: r) fun z hz => h z (List.mem_cons_of_mem _ hz)
    rw [joinC, List.length_append, List.length_append, List.length_cons (a := x), Nat.add_mul]
    omega
end Ms

set_option Elab.async false
set_option linter.all false
set_option autoImplicit false
set_option maxRecDepth 100000
set_option maxHeartbeats 4000000
namespace Ms
/-! ## Drawn comprehensions over a drawn number -/
/-- L[a draw] -/
theorem dr_ixv {p : Pn} {k : Nat} {e : Env} {j : Nat} {L : List D} {m : Int} (h0 : e.get 0 = some (.obj p.i)) (hj : e.get j = some (.lst L)) (hm : m = (L.length : Int)) (hm0 : 0 < m) (hm2 : m < 1073741824) : Dr p 1 (evE (callK G T (k + 1)) G (.ix (.v j) (.call 201 (.cons (.v 0) (.cons (.k (.int m)) .nil)))) e) (fun d => d ∈ L) := by
  intro a q ha hq hb
  obtain ⟨y, a2, q2, e2, l2, u2, k2, r, rfl, r0, r1⟩ := dr_evk (e := e) (k := k) h0 hm0 hm2 a q ha hq hb
  obtain ⟨i, rfl⟩ : ∃ i : Nat, r = (i : Int) := ⟨r.toNat, by omega⟩
  have hi : i < L.length := by omega
  refine ⟨L[i], a2, q2, ?_, l2, u2, k2, List.getElem_mem hi⟩
  rw [evE_ix_23, ev_v hj, Rs.bind_ok, e2, Rs.bind_ok, der_lst', ix_nat hi]
  rfl
theorem dr_lc_rng {p : Pn} {k : Nat} {e : Env} {m w : Int} {elt : E} {tg : Tg} {own : List Nat} {R : D → Prop} {it : E} (hit : Dr p 1 (evE (callK G T (k + 1)) G it e) (fun d => ∃ r, d = .int r ∧ 0 ≤ r ∧ r < m)) (hm0 : 0 < m) (hm2 : m ≤ 1000) (hw : 0 ≤ w)
    (h : ∀ x, ∃ e1, bindTg tg x (wipeE e own) = some e1 ∧ Dr p w (evE (callK G T (k + 1)) G elt e1) R) :
    Dr p (1 + m * w) (evF (callK G T (k + 1)) G (.lc elt tg (.rng1 it) .none own) e) (fun l => (l.length : Int) < m ∧ ∀ y ∈ l, R y) := by
  intro a q ha hq hb
  have hmw : 0 ≤ m * w := Int.mul_nonneg (by omega) hw
  obtain ⟨y, a1, q1, e1, l1, u1, k1, r, rfl, r0, r1⟩ := hit a q ha hq (by omega)
  obtain ⟨n, hn⟩ : ∃ n : Nat, n = r.toNat := ⟨_, rfl⟩
  have hr : rng1 (.int r) = some (rngL 0 n) := by
    rw [hn]; exact rng1_of (by omega) (by omega)
  have hc : ((rngL 0 n).length : Int) * (0 + w) ≤ m * w := by
    rw [rng_len, Int.zero_add]
    exact Int.mul_le_mul_of_nonneg_right (by omega) hw
  have hd := dr_lc (p := p) (tg := tg) (env := wipeE e own) (cc := evC (callK G T (k + 1)) G .none) (elt := evE (callK G T (k + 1)) G elt) (c1 := 0) (c2 := w) (R := fun _ y => R y) (by omega) hw (rngL 0 n) fun x _ => by
    obtain ⟨e1, b1, d1⟩ := h x
    exact ⟨e1, b1, (Dr.ok (p := p) (d := true) (P := fun _ => True) trivial).eq fun s => by simp, d1⟩
  obtain ⟨l, a2, q2, e2, l2, u2, k2, ds', sub, al⟩ := hd a1 q1 (by omega) k1 (by omega)
  have hll : l.length ≤ n := by
    rw [← al.length]
    have := sub.length_le
    rwa [rng_len] at this
  refine ⟨l, a2, q2, ?_, by omega, by omega, k2, by omega, al.right fun x _ y hy => hy⟩
  have hl : decide ((rngL 0 n).length ≤ lim) = true := decide_eq_true (le_lim (m := 1000) (by rw [rng_len]; omega) (by decide))
  have e0 : evIt (callK G T (k + 1)) G (.rng1 it) e (p.st a q) = .ok (rngL 0 n) (p.st a1 q1) := by
    rw [evIt_rng1_1, e1, Rs.bind_ok, hr]; rfl
  rw [evF_lc_3, e0, Rs.bind_ok]
  simp only [hl]
  rw [e2]
  rfl
end Ms

set_option Elab.async false
set_option linter.all false
set_option autoImplicit false
set_option maxRecDepth 100000
set_option maxHeartbeats 4000000
namespace Ms
/-! ## A drawn line -/
def setA : Ss → E
  | .cons (.set _ a) _ => a
  | _ => .bad
def wordsL : List (List Nat) := [[97], [87, 111, 114, 100], [101, 110, 100, 46], [123, 110, 125], [123, 97, 108, 108, 125], [123, 110, 97, 109, 101, 125], [100, 111, 110, 39, 116, 59], [], [], List.replicate 23 120, [123, 110], [123, 123, 110, 125, 125], [123, 78, 125, 32, 126, 33], [119, 111, 114, 100]]
theorem words_ok : ∀ x ∈ wordsL, x.length ≤ 23 ∧ SgT x := by
  have h : (wordsL.all fun x => decide (x.length ≤ 23) && x.all fun c => signs.contains c) = true := by kernel_rfl
  intro x hx
  have := List.all_eq_true.mp h x hx
  simp only [Bool.and_eq_true, decide_eq_true_eq, List.all_eq_true, List.contains_eq_mem] at this
  exact ⟨this.1, fun c hc => by simpa using this.2 c hc⟩
theorem strs_map : ∀ (l : List (List Nat)), strsOf (l.map .str) = some l
  | [] => rfl
  | x :: r => by simp only [List.map_cons, strsOf, strs_map r, Option.map_some]
theorem wstrs_of {P : List Nat → Prop} : ∀ {l : List D}, (∀ y ∈ l, ∃ x, y = .str x ∧ P x) → ∃ ys : List (List Nat), l = ys.map D.str ∧ ∀ y ∈ ys, P y
  | [], _ => ⟨[], rfl, fun _ h => by cases h⟩
  | d :: r, h => by
    obtain ⟨x, rfl, hx⟩ := h d List.mem_cons_self
    obtain ⟨ys, rfl, hy⟩ := wstrs_of fun y hy => h y (List.mem_cons_of_mem _ hy)
    exact ⟨x :: ys, rfl, fun y hy' => (List.mem_cons.mp hy').elim (fun e => e ▸ hx) (hy y)⟩
theorem line_dr (p : Pn) (k : Nat) : Dr p 20 (callK G T (k + 2) n__law_line [.obj p.i]) (GWrit 60) := by
  refine Dr.eq (m := runB (callK G T (k + 1)) G 4 F__law_line [.obj p.i]) ?_ fun s => by rw [call_eq T__law_line rfl]
  refine drR_run ?_
  have w1 : (0 : Int) ≤ 1 := by decide
  have hW : ∀ s, evE (callK G T (k + 1)) G (setA F__law_line) (startE 4 [.obj p.i]) s = .ok (.lst (wordsL.map .str)) s := fun s => by kernel_rfl
  refine DrR.imp (c := 0 + ((1 + 6 * 1 + 0) + (3 * 1 + (1 + 0)))) (P := GWrit 60) ?_ (by decide) fun _ h => h
  refine drR_set (P := fun d => d = .lst (wordsL.map .str)) (dr_pure (by decide) hW rfl) (by decide) fun d hd => ?_
  subst hd
  refine drR_set (P := fun d => ∃ x, d = .str x ∧ x.length ≤ 1000 ∧ SgT x) ?_ (by decide) fun d hd => ?_
  · have hlc := dr_lc_rng (p := p) (k := k) (e := [.val (.obj p.i), .val (.lst (wordsL.map .str)), .non, .non]) (m := 6) (w := 1) (own := [3]) (tg := .name 3) (elt := .ix (.v 1) (.call 201 (.cons (.v 0) (.cons (.k (.int 14)) .nil)))) (R := fun d => d ∈ wordsL.map D.str) (dr_evk rfl (by decide) (by decide)) (by decide) (by decide) (by decide) fun x => ⟨_, rfl, dr_ixv rfl rfl (by decide) (by decide) (by decide)⟩
    intro a q ha hq hb
    obtain ⟨l, a1, q1, e1, l1, u1, k1, hl, hm⟩ := hlc a q ha hq (by omega)
    obtain ⟨ys, rfl, hy⟩ := wstrs_of (P := fun x => x ∈ wordsL) fun y hy => by
      obtain ⟨x, hx, e⟩ := List.mem_map.mp (hm y hy)
      exact ⟨x, e.symm, hx⟩
    rw [List.length_map] at hl
    have hlen : (joinC [32] ys).length ≤ 1000 := by
      have := joinC_len (sep := [32]) (w := 23) (l := ys) fun x hx => (words_ok x (hy x hx)).1
      simp only [List.length_cons, List.length_nil] at this
      omega
    have hsg : SgT (joinC [32] ys) := joinC_sg (fun c hc => by rw [List.mem_singleton.mp hc]; exact (List.contains_iff_mem (as := signs)).mp (by kernel_rfl)) fun x hx => (words_ok x (hy x hx)).2
    refine ⟨.str (joinC [32] ys), a1, q1, ?_, l1, by omega, k1, _, rfl, hlen, hsg⟩
    have hsum : ∀ (l : List (List Nat)), (∀ x ∈ l, x ∈ wordsL) → (l.map List.length).sum ≤ 23 * l.length := fun l => by
      induction l with
      | nil => intro _; simp
      | cons x r ih =>
        intro h
        have := ih fun y hy => h y (List.mem_cons_of_mem _ hy)
        have h1 := (words_ok x (h x List.mem_cons_self)).1
        simp only [List.map_cons, List.sum_cons, List.length_cons]
        omega
    have hj : meth .join (.str [32]) [.lst (ys.map .str)] = some (.str (joinC [32] ys)) := by
      have hs := hsum ys hy
      have hd : decide ((ys.map List.length).sum + ys.length * [32].length ≤ lim) = true := decide_eq_true (le_lim (m := 1000) (by simp only [List.length_cons, List.length_nil]; omega) (by decide))
      simp only [meth, strs_map, Option.bind_some, hd]
    have e2 : evE (callK G T (k + 1)) G (.fl (.lc (.ix (.v 1) (.call 201 (.cons (.v 0) (.cons (.k (.int 14)) .nil)))) (.name 3) (.rng1 (.call 201 (.cons (.v 0) (.cons (.k (.int 6)) .nil)))) .none [3])) [.val (.obj p.i), .val (.lst (wordsL.map .str)), .non, .non] (p.st a q) = .ok (.lst (ys.map .str)) (p.st a1 q1) := by
      rw [evE_fl_26, e1]; rfl
    have e3 : (startE 4 [D.obj p.i]).set 1 (.val (.lst (wordsL.map .str))) = [.val (.obj p.i), .val (.lst (wordsL.map .str)), .non, .non] := rfl
    rw [e3, evE_m_18, evE_k_1, Rs.bind_ok, evEs_cons_1, e2, Rs.bind_ok, evEs_nil_0, Rs.bind_ok, Rs.bind_ok]
    show Rs.of (meth .join (.str [32]) [.lst (ys.map .str)]) _ = _
    rw [hj]
    rfl
  · obtain ⟨x, rfl, hx, hsg⟩ := hd
    refine drR_ret ?_
    have hp : Dr p (3 * 1 + (1 + 0)) (evE (callK G T (k + 1)) G (.ix (.fl (.lst (.cons (.k (.int 60)) (.cons (.k (.int 60)) (.cons (.k (.int 7)) .nil))))) (.call 201 (.cons (.v 0) (.cons (.k (.int 3)) .nil)))) (((startE 4 [D.obj p.i]).set 1 (.val (.lst (wordsL.map .str)))).set 2 (.val (.str x)))) (fun d => ∃ n : Nat, d = .int (n : Int) ∧ n ≤ 60) :=
      dr_pick (n := 3) rfl (by decide) (by decide) (by decide) (dr_cons w1 (dr_k w1 ⟨60, rfl, by decide⟩) (dr_cons w1 (dr_k w1 ⟨60, rfl, by decide⟩) (dr_cons w1 (dr_k w1 ⟨7, rfl, by decide⟩) dr_nil)))
    intro a q ha hq hb
    obtain ⟨d, a1, q1, e1, l1, u1, k1, n, rfl, hn⟩ := hp a q ha hq hb
    refine ⟨.str (x.take n), a1, q1, ?_, l1, u1, k1, _, rfl, by rw [List.length_take]; omega, fun c hc => hsg c (List.mem_of_mem_take hc)⟩
    have hd : decide (x.length ≤ lim) = true := decide_eq_true (le_lim hx (by decide))
    have hs : sliceV (.str x) none (some (n : Int)) = some (.str (x.take n)) := by
      simp only [sliceV, hd]
      have hlt : ¬ ((n : Int) < 0) := by omega
      simp only [cut, bnd, hlt, if_false, List.drop_zero, Nat.sub_zero, Int.toNat_natCast]
      congr 2
      rcases Nat.le_total n x.length with h | h
      · rw [Nat.min_eq_left h]
      · rw [Nat.min_eq_right h, List.take_of_length_le (Nat.le_refl _), List.take_of_length_le h]
    rw [evE_sl_24, ev_v (d := .str x) rfl, Rs.bind_ok, evO_none_0, Rs.bind_ok, evO_some_1, e1]
    show ((((Rs.ok (some (n : Int)) (p.st a1 q1)).bind fun h s => Rs.of (sliceV (.str x) none h) s)) : Rs D) = _
    rw [Rs.bind_ok, hs]
    rfl
end Ms

set_option Elab.async false
set_option linter.all false
set_option autoImplicit false
set_option maxRecDepth 100000
set_option maxHeartbeats 4000000
namespace Ms
/-! ## Drawn lines -/
theorem slice_take {x : List Nat} (hx : x.length ≤ 1000) (n : Nat) : sliceV (.str x) none (some (n : Int)) = some (.str (x.take n)) := by
  have hd : decide (x.length ≤ lim) = true := decide_eq_true (le_lim hx (by decide))
  simp only [sliceV, hd]
  have hlt : ¬ ((n : Int) < 0) := by omega
  simp only [cut, bnd, hlt, if_false, List.drop_zero, Nat.sub_zero, Int.toNat_natCast]
  congr 2
  rcases Nat.le_total n x.length with h | h
  · rw [Nat.min_eq_left h]
  · rw [Nat.min_eq_right h, List.take_of_length_le (Nat.le_refl _), List.take_of_length_le h]
theorem lines_dr (p : Pn) (k : Nat) : Dr p 300 (callK G T (k + 3) n__law_lines [.obj p.i]) GLines := by
  refine Dr.eq (m := runB (callK G T (k + 2)) G 3 F__law_lines [.obj p.i]) ?_ fun s => by rw [call_eq T__law_lines rfl]
  refine drR_run ?_
  have w1 : (0 : Int) ≤ 1 := by decide
  refine DrR.imp (c := (3 * 1 + (1 + 0)) + (1 + 13 * 20)) (P := GLines) ?_ (by decide) fun _ h => h
  refine drR_set (P := fun d => ∃ r, d = .int r ∧ 0 ≤ r ∧ r < 13) ?_ (by decide) fun d hd => ?_
  · refine dr_pick (n := 3) rfl (by decide) (by decide) (by decide) (dr_cons w1 ?_ (dr_cons w1 ?_ (dr_cons w1 ?_ dr_nil)))
    · exact dr_int rfl (by decide) (by decide) fun r r0 r1 => ⟨r, rfl, r0, by omega⟩
    · exact dr_int rfl (by decide) (by decide) fun r r0 r1 => ⟨r, rfl, r0, by omega⟩
    · exact dr_k w1 ⟨12, rfl, by omega, by omega⟩
  · obtain ⟨r, rfl, r0, r1⟩ := hd
    refine drR_ret ?_
    have he : (startE 3 [D.obj p.i]).set 1 (.val (.int r)) = [.val (.obj p.i), .val (.int r), .non] := rfl
    rw [he]
    have hlc := dr_lc_rng (p := p) (k := k + 1) (e := [.val (.obj p.i), .val (.int r), .non]) (m := 13) (w := 20) (own := [2]) (tg := .name 2) (it := .v 1) (elt := .sl (.call 203 (.cons (.v 0) .nil)) .none (.some (.ix (.fl (.lst (.cons (.k (.int 60)) (.cons (.k (.int 12)) .nil)))) (.b1 .int (.cmp .gt (.v 1) (.k (.int 3))))))) (R := GWrit 60) (dr_pure (by decide) (fun s => ev_v rfl) ⟨r, rfl, r0, r1⟩) (by decide) (by decide) (by decide) fun x => ⟨_, rfl, by
      intro a q ha hq hb
      obtain ⟨d, a1, q1, e1, l1, u1, k1, y, rfl, hy, hsg⟩ := line_dr p k a q ha hq hb
      obtain ⟨n, hn⟩ : ∃ n : Nat, ∀ s, evE (callK G T (k + 2)) G (.ix (.fl (.lst (.cons (.k (.int 60)) (.cons (.k (.int 12)) .nil)))) (.b1 .int (.cmp .gt (.v 1) (.k (.int 3))))) [.val (.obj p.i), .val (.int r), .val x] s = .ok (.int (n : Int)) s := by
        by_cases h3 : 3 < r
        · exact ⟨12, fun s => by simp [cmpop, h3, b1, lim, index, atIx, ixPos]⟩
        · exact ⟨60, fun s => by simp [cmpop, h3, b1, lim, index, atIx, ixPos]⟩
      refine ⟨.str (y.take n), a1, q1, ?_, l1, u1, k1, _, rfl, by rw [List.length_take]; omega, fun c hc => hsg c (List.mem_of_mem_take hc)⟩
      have e0 : (wipeE [.val (.obj p.i), .val (.int r), .non] [2]).set 2 (.val x) = [.val (.obj p.i), .val (.int r), .val x] := rfl
      rw [e0, evE_sl_24, ev_call1 (ev_v rfl), e1, Rs.bind_ok, evO_none_0, Rs.bind_ok, evO_some_1, hn]
      show ((((Rs.ok (some (n : Int)) (p.st a1 q1)).bind fun h s => Rs.of (sliceV (.str y) none h) s)) : Rs D) = _
      rw [Rs.bind_ok, slice_take (by omega)]
      rfl⟩
    intro a q ha hq hb
    obtain ⟨l, a1, q1, e1, l1, u1, k1, hl, hm⟩ := hlc a q ha hq hb
    refine ⟨.tup l, a1, q1, ?_, l1, u1, k1, l, rfl, by omega, hm⟩
    rw [evE_b1_16, evE_fl_26, e1]
    rfl
end Ms

set_option Elab.async false
set_option linter.all false
set_option autoImplicit false
set_option maxRecDepth 100000
set_option maxHeartbeats 4000000
namespace Ms
/-! ## A drawn place -/
theorem tr_inj {i j : Nat} (hi : i < 6) (hj : j < 6) (h : tr i = tr j) : i = j := by
  rcases (by omega : i = 0 ∨ i = 1 ∨ i = 2 ∨ i = 3 ∨ i = 4 ∨ i = 5) with rfl | rfl | rfl | rfl | rfl | rfl <;>
  rcases (by omega : j = 0 ∨ j = 1 ∨ j = 2 ∨ j = 3 ∨ j = 4 ∨ j = 5) with rfl | rfl | rfl | rfl | rfl | rfl <;> first
  | rfl
  | (simp [tr] at h)
def trs : List D := (List.range 6).map tr
theorem traits_eval (k : Nat) (s : Sto) : callK G T (k + 1) n__law_traits [] s = .ok (.lst trs) s := by kernel_rfl
/-- trait by trait -/
def RTr (f : Nat → D → D) (d y : D) : Prop := ∃ j w, j < 6 ∧ d = tr j ∧ y = f j w ∧ GWorth j w
theorem tr_pairs {f : Nat → D → D} : ∀ {js : List Nat} {l : List D}, (∀ j ∈ js, j < 6) → All2 (RTr f) (js.map tr) l → ∃ ps : List (Nat × D), ps.map Prod.fst = js ∧ l = ps.map (fun q => f q.1 q.2) ∧ ∀ q ∈ ps, q.1 < 6 ∧ GWorth q.1 q.2
  | [], _, _, .nil => ⟨[], rfl, rfl, fun _ h => by cases h⟩
  | j :: js, _, hj, .cons h r => by
    obtain ⟨j', w, h1, h2, rfl, h4⟩ := h
    obtain rfl := tr_inj (hj j List.mem_cons_self) h1 h2
    obtain ⟨ps, e1, rfl, e3⟩ := tr_pairs (fun x hx => hj x (List.mem_cons_of_mem _ hx)) r
    exact ⟨(j, w) :: ps, by rw [List.map_cons, e1], rfl, fun q hq => (List.mem_cons.mp hq).elim (fun e => by rw [e]; exact ⟨h1, h4⟩) (e3 q)⟩
theorem tr_sub {f : Nat → D → D} {ds' l : List D} (hs : ds'.Sublist trs) (h : All2 (RTr f) ds' l) : ∃ ps : List (Nat × D), (ps.map Prod.fst).Pairwise (· < ·) ∧ l = ps.map (fun q => f q.1 q.2) ∧ ∀ q ∈ ps, q.1 < 6 ∧ GWorth q.1 q.2 := by
  obtain ⟨js, h1, rfl⟩ := List.sublist_map_iff.mp hs
  obtain ⟨ps, e1, e2, e3⟩ := tr_pairs (fun j hj => List.mem_range.mp (h1.subset hj)) h
  exact ⟨ps, by rw [e1]; exact List.pairwise_lt_range.sublist h1, e2, e3⟩
end Ms

set_option Elab.async false
set_option linter.all false
set_option autoImplicit false
set_option maxRecDepth 100000
set_option maxHeartbeats 4000000
namespace Ms
/-- a test by a draw -/
theorem dr_test {p : Pn} {k : Nat} {e : Env} {m : Int} (h0 : e.get 0 = some (.obj p.i)) (hm : 0 < m) (hm2 : m < 1073741824) : Dr p 1 (evE (callK G T (k + 1)) G (.cmp .eq (.call 201 (.cons (.v 0) (.cons (.k (.int m)) .nil))) (.k (.int 0))) e) (fun d => ∃ b, d = .bl b) := by
  intro a q ha hq hb
  obtain ⟨d, a1, q1, e1, l1, u1, k1, r, rfl, r0, r1⟩ := dr_evk (k := k) h0 hm hm2 a q ha hq hb
  refine ⟨.bl (r == 0), a1, q1, ?_, l1, u1, k1, _, rfl⟩
  rw [evE_cmp_5, e1, Rs.bind_ok, evE_k_1, Rs.bind_ok, der_int', der_int']
  simp [cmpop, pyEq, okEq]
theorem dr_testR {p : Pn} {C : Calls} {e : Env} {a : E} {c : Int} (h : Dr p c (evE C G a e) (fun d => ∃ b, d = .bl b)) : Dr p c (evC C G (.some a) e) (fun _ => True) := by
  intro a' q ha hq hb
  obtain ⟨d, a1, q1, e1, l1, u1, k1, b, rfl⟩ := h a' q ha hq hb
  refine ⟨b, a1, q1, ?_, l1, u1, k1, trivial⟩
  rw [evC_some_1, e1]
  rfl
theorem dr_trs {p : Pn} {k : Nat} {e : Env} {i : Nat} {elt : E} (f : Nat → D → D) (h0 : ∀ x, Env.get ((wipeE e [i]).set i (.val x)) 0 = some (.obj p.i)) (h : ∀ j, j < 6 → Dr p 6 (evE (callK G T (k + 2)) G elt ((wipeE e [i]).set i (.val (tr j)))) (fun y => ∃ w, y = f j w ∧ GWorth j w)) :
    Dr p 42 (evF (callK G T (k + 2)) G (.lc elt (.name i) (.seq (.call 206 .nil)) (.some (.cmp .eq (.call 201 (.cons (.v 0) (.cons (.k (.int 3)) .nil))) (.k (.int 0)))) [i]) e) (fun l => ∃ ps : List (Nat × D), (ps.map Prod.fst).Pairwise (· < ·) ∧ l = ps.map (fun q => f q.1 q.2) ∧ ∀ q ∈ ps, q.1 < 6 ∧ GWorth q.1 q.2) := by
  have hd := dr_lc (p := p) (tg := .name i) (env := wipeE e [i]) (cc := evC (callK G T (k + 2)) G (.some (.cmp .eq (.call 201 (.cons (.v 0) (.cons (.k (.int 3)) .nil))) (.k (.int 0))))) (elt := evE (callK G T (k + 2)) G elt) (c1 := 1) (c2 := 6) (R := RTr f) (by omega) (by omega) trs fun x hx => by
    obtain ⟨j, hj, rfl⟩ := List.mem_map.mp hx
    have hj6 := List.mem_range.mp hj
    exact ⟨_, rfl, dr_testR (dr_test (h0 _) (by decide) (by decide)), (h j hj6).imp (by omega) fun y hy => by
      obtain ⟨w, h1, h2⟩ := hy
      exact ⟨j, w, hj6, rfl, h1, h2⟩⟩
  intro a q ha hq hb
  have hl6 : (trs.length : Int) * (1 + 6) = 42 := by rfl
  rw [hl6] at hd
  obtain ⟨l, a1, q1, e1, l1, u1, k1, ds', sub, al⟩ := hd a q ha hq hb
  refine ⟨l, a1, q1, ?_, l1, u1, k1, tr_sub sub al⟩
  have e0 : evIt (callK G T (k + 2)) G (.seq (.call 206 .nil)) e (p.st a q) = .ok trs (p.st a q) := by
    rw [evIt_seq_0, evE_call_13, evEs_nil_0, Rs.bind_ok, traits_eval (k + 1), Rs.bind_ok]
    rfl
  have hl : decide (trs.length ≤ lim) = true := by rfl
  rw [evF_lc_3, e0, Rs.bind_ok]
  simp only [hl]
  rw [e1]
  rfl
end Ms

set_option Elab.async false
set_option linter.all false
set_option autoImplicit false
set_option maxRecDepth 100000
set_option maxHeartbeats 4000000
namespace Ms
theorem place_dr (p : Pn) (k : Nat) {x : List Nat} (hx : nameB x = true) : Dr p 1000 (callK G T (k + 4) n__law_place [.obj p.i, .str x]) (fun d => ∃ q : Pl, d = q.d ∧ q.ok ∧ q.nm = x) := by
  refine Dr.eq (m := runB (callK G T (k + 3)) G 4 F__law_place [.obj p.i, .str x]) ?_ fun s => by rw [call_eq T__law_place rfl]
  refine drR_run ?_
  refine DrR.imp (c := 42 + ((3 * 300 + (1 + 0)))) (P := fun d => ∃ q : Pl, d = q.d ∧ q.ok ∧ q.nm = x) ?_ (by decide) fun _ h => h
  have hs := dr_trs (p := p) (k := k + 1) (e := [.val (.obj p.i), .val (.str x), .non, .non]) (i := 3) (elt := .tup (.cons (.v 3) (.cons (.call 205 (.cons (.v 0) (.cons (.v 3) .nil))) .nil))) (fun j w => .tup [tr j, w]) (fun _ => rfl) fun j hj => by
    intro a q ha hq hb
    obtain ⟨w, a1, q1, e1, l1, u1, k1, hw⟩ := worth_dr p (k + 1) hj a q ha hq hb
    refine ⟨.tup [tr j, w], a1, q1, ?_, l1, u1, k1, w, rfl, hw⟩
    rw [evE_tup_25, evEs_cons_1, ev_v (d := tr j) rfl, Rs.bind_ok, evEs_cons_1, ev_call2 (ev_v (d := .obj p.i) rfl) (ev_v (d := tr j) rfl), e1, Rs.bind_ok, evEs_nil_0]
    rfl
  refine drR_set (P := fun d => ∃ ps : List (Nat × D), d = .tup (ps.map setD) ∧ (ps.map Prod.fst).Pairwise (· < ·) ∧ ∀ q ∈ ps, q.1 < 6 ∧ GWorth q.1 q.2) ?_ (by decide) fun d hd => ?_
  · intro a q ha hq hb
    obtain ⟨l, a1, q1, e1, l1, u1, k1, ps, h1, rfl, h3⟩ := hs a q ha hq hb
    refine ⟨_, a1, q1, ?_, l1, u1, k1, ps, rfl, h1, h3⟩
    have he : startE 4 [D.obj p.i, .str x] = [.val (.obj p.i), .val (.str x), .non, .non] := rfl
    rw [he, evE_b1_16, evE_fl_26, e1]
    rfl
  · obtain ⟨ps, rfl, h1, h2⟩ := hd
    refine drR_ret ?_
    have w1 : (0 : Int) ≤ 300 := by decide
    have hp : Dr p (3 * 300 + (1 + 0)) (evE (callK G T (k + 3)) G (.ix (.fl (.lst (.cons (.k .non) (.cons (.k .non) (.cons (.call 204 (.cons (.v 0) .nil)) .nil))))) (.call 201 (.cons (.v 0) (.cons (.k (.int 3)) .nil)))) [.val (.obj p.i), .val (.str x), .val (.tup (ps.map setD)), .non]) (fun d => d = .non ∨ GLines d) :=
      dr_pick (k := k + 2) (n := 3) rfl (by decide) (by decide) (by decide) (dr_cons w1 (dr_k w1 (.inl rfl)) (dr_cons w1 (dr_k w1 (.inl rfl)) (dr_cons w1 (((lines_dr p k).eq fun s => ev_call1 (ev_v rfl)).imp (by omega) fun _ h => .inr h) dr_nil)))
    intro a q ha hq hb
    obtain ⟨d, a1, q1, e1, l1, u1, k1, hd⟩ := hp a q ha hq hb
    refine ⟨Pl.d ⟨x, ps, d⟩, a1, q1, ?_, l1, u1, k1, ⟨x, ps, d⟩, rfl, ⟨hx, h1, h2, hd⟩, rfl⟩
    have he : (startE 4 [D.obj p.i, .str x]).set 2 (.val (.tup (ps.map setD))) = [.val (.obj p.i), .val (.str x), .val (.tup (ps.map setD)), .non] := rfl
    rw [he, evE_tup_25, evEs_cons_1, ev_v (d := .str x) rfl, Rs.bind_ok, evEs_cons_1, ev_v (d := .tup (ps.map setD)) rfl, Rs.bind_ok, evEs_cons_1, e1, Rs.bind_ok, evEs_nil_0]
    rfl
end Ms

set_option Elab.async false
set_option linter.all false
set_option autoImplicit false
set_option maxRecDepth 100000
set_option maxHeartbeats 4000000
namespace Ms
/-! ## Names: codes that do not come again -/
theorem cop (step : Nat) (h2 : step % 2 = 1) (h13 : step % 13 ≠ 0) : Nat.Coprime 676 step := by
  have e : (676 : Nat) = 2 * (2 * (13 * 13)) := rfl
  have a2 : Nat.Coprime 2 step := by
    rw [Nat.coprime_iff_gcd_eq_one, Nat.gcd_rec, h2]; decide
  have a13 : Nat.Coprime 13 step := by
    have hlt : step % 13 < 13 := Nat.mod_lt _ (by decide)
    rw [Nat.coprime_iff_gcd_eq_one, Nat.gcd_rec]
    generalize step % 13 = r at *
    rcases (by omega : r = 1 ∨ r = 2 ∨ r = 3 ∨ r = 4 ∨ r = 5 ∨ r = 6 ∨ r = 7 ∨ r = 8 ∨ r = 9 ∨ r = 10 ∨ r = 11 ∨ r = 12) with rfl | rfl | rfl | rfl | rfl | rfl | rfl | rfl | rfl | rfl | rfl | rfl <;> decide
  rw [e]
  exact a2.mul_left (a2.mul_left (a13.mul_left a13))
theorem codes_inj {c step i j : Nat} (h2 : step % 2 = 1) (h13 : step % 13 ≠ 0) (hi : i < 676) (hj : j < 676) (h : (c + i * step) % 676 = (c + j * step) % 676) : i = j := by
  have hc := cop step h2 h13
  have key : ∀ a b : Nat, a < 676 → b < 676 → a ≤ b → (c + a * step) % 676 = (c + b * step) % 676 → a = b := fun a b ha hb hab h => by
    obtain ⟨d, rfl⟩ := Nat.exists_eq_add_of_le hab
    have h1 : 676 ∣ d * step := by
      rw [Nat.add_mul] at h
      omega
    have h3 := hc.dvd_of_dvd_mul_right h1
    have : d = 0 := by
      rcases h3 with ⟨t, rfl⟩
      omega
    omega
  rcases Nat.le_total i j with hh | hh
  · exact key i j hi hj hh h
  · exact (key j i hj hi hh h.symm).symm
end Ms

set_option Elab.async false
set_option linter.all false
set_option autoImplicit false
set_option maxRecDepth 100000
set_option maxHeartbeats 4000000
namespace Ms
/-! ## Texts in order -/
theorem wltL_trans : ∀ {x y z : List Nat}, ltL x y = true → ltL y z = true → ltL x z = true
  | [], [], _, h, _ => by simp [ltL] at h
  | _ :: _, [], _, h, _ => by simp [ltL] at h
  | _, _ :: _, [], _, h => by simp [ltL] at h
  | [], _ :: _, _ :: _, _, _ => by simp [ltL]
  | a :: x, b :: y, c :: z, h1, h2 => by
    simp only [ltL, Bool.or_eq_true, decide_eq_true_eq, Bool.and_eq_true, beq_iff_eq] at h1 h2 ⊢
    rcases h1 with h1 | ⟨rfl, h1⟩
    · rcases h2 with h2 | ⟨rfl, h2⟩
      · exact .inl (by omega)
      · exact .inl h1
    · rcases h2 with h2 | ⟨rfl, h2⟩
      · exact .inl h2
      · exact .inr ⟨rfl, wltL_trans h1 h2⟩
theorem ltL_total : ∀ (x y : List Nat), ltL x y = true ∨ x = y ∨ ltL y x = true
  | [], [] => .inr (.inl rfl)
  | [], _ :: _ => .inl (by simp [ltL])
  | _ :: _, [] => .inr (.inr (by simp [ltL]))
  | a :: x, b :: y => by
    simp only [ltL, Bool.or_eq_true, decide_eq_true_eq, Bool.and_eq_true, beq_iff_eq, List.cons.injEq]
    rcases Nat.lt_trichotomy a b with h | rfl | h
    · exact .inl (.inl h)
    · rcases ltL_total x y with h | rfl | h
      · exact .inl (.inr ⟨rfl, h⟩)
      · exact .inr (.inl ⟨rfl, rfl⟩)
      · exact .inr (.inr (.inr ⟨rfl, h⟩))
    · exact .inr (.inr (.inl h))
def AscT (l : List (List Nat)) : Prop := l.Pairwise fun a b => ltL a b = true
theorem insS_mem {x : List Nat} : ∀ {l : List (List Nat)} {y : List Nat}, y ∈ insS x l → y = x ∨ y ∈ l
  | [], y, h => by simpa [insS] using h
  | a :: r, y, h => by
    rw [insS] at h
    split at h
    · rcases List.mem_cons.mp h with h | h
      · exact .inl h
      · exact .inr h
    · rcases List.mem_cons.mp h with h | h
      · exact .inr (h ▸ List.mem_cons_self)
      · rcases insS_mem h with h | h
        · exact .inl h
        · exact .inr (List.mem_cons_of_mem _ h)
theorem insS_asc {x : List Nat} : ∀ {l : List (List Nat)}, x ∉ l → AscT l → AscT (insS x l)
  | [], _, _ => List.pairwise_singleton _ _
  | a :: r, hx, h => by
    have ⟨h1, h2⟩ := List.pairwise_cons.mp h
    rw [insS]
    split
    · rename_i hlt
      exact List.pairwise_cons.mpr ⟨fun y hy => by
        rcases List.mem_cons.mp hy with rfl | hy
        · exact hlt
        · exact wltL_trans hlt (h1 y hy), h⟩
    · rename_i hlt
      have hax : ltL a x = true := by
        rcases ltL_total x a with h | h | h
        · exact absurd h hlt
        · exact absurd (h ▸ List.mem_cons_self) hx
        · exact h
      refine List.pairwise_cons.mpr ⟨fun y hy => ?_, insS_asc (fun hm => hx (List.mem_cons_of_mem _ hm)) h2⟩
      rcases insS_mem hy with rfl | hy
      · exact hax
      · exact h1 y hy
theorem sortC_mem : ∀ {l : List (List Nat)} {y : List Nat}, y ∈ sortC l → y ∈ l
  | [], y, h => by cases h
  | a :: r, y, h => (insS_mem (l := sortC r) h).elim (fun e => e ▸ List.mem_cons_self) fun h => List.mem_cons_of_mem _ (sortC_mem h)
theorem sortC_asc : ∀ {l : List (List Nat)}, l.Nodup → AscT (sortC l)
  | [], _ => List.Pairwise.nil
  | a :: r, h => by
    have ⟨h1, h2⟩ := List.nodup_cons.mp h
    exact insS_asc (l := sortC r) (fun hm => h1 (sortC_mem hm)) (sortC_asc h2)
end Ms

set_option Elab.async false
set_option linter.all false
set_option autoImplicit false
set_option maxRecDepth 100000
set_option maxHeartbeats 4000000
namespace Ms
/-! ## Loops that draw: statements that go on -/
theorem drS_set {p : Pn} {C : Calls} {c1 c2 : Int} {a : E} {i : Nat} {r : Ss} {e : Env} {P : D → Prop} {Q : Env → Prop} (h : Dr p c1 (evE C G a e) P) (hc : 0 ≤ c2) (hr : ∀ d, P d → DrS p c2 (evSs C G r (e.set i (.val d))) Q) : DrS p (c1 + c2) (evSs C G (.cons (.set i a) r) e) Q := fun a' q ha hq hb => by
  obtain ⟨d, a1, q1, e1, l1, u1, k1, p1⟩ := h a' q ha hq (by omega)
  obtain ⟨d2, a2, q2, e2, l2, u2, k2, p2⟩ := hr d p1 a1 q1 (by omega) k1 (by omega)
  exact ⟨d2, a2, q2, (ss_set e1).trans e2, by omega, by omega, k2, p2⟩
theorem drS_nil {p : Pn} {C : Calls} {e : Env} {Q : Env → Prop} (h : Q e) : DrS p 0 (evSs C G .nil e) Q := fun a q ha hq _ =>
  ⟨e, a, q, by rw [evSs_nil_0], by omega, by omega, hq, h⟩
theorem drS_app {p : Pn} {C : Calls} {c1 c2 : Int} {a : E} {i : Nat} {r : Ss} {e : Env} {l : List D} {P : D → Prop} {Q : Env → Prop} (hi : e.getO i = some l) (hl : l.length ≤ 1000) (h : Dr p c1 (evE C G a e) P) (hc : 0 ≤ c2) (hr : ∀ d, P d → DrS p c2 (evSs C G r (e.set i (.own (l ++ [d])))) Q) : DrS p (c1 + c2) (evSs C G (.cons (.app i a) r) e) Q := fun a' q ha hq hb => by
  obtain ⟨d, a1, q1, e1, l1, u1, k1, p1⟩ := h a' q ha hq (by omega)
  obtain ⟨d2, a2, q2, e2, l2, u2, k2, p2⟩ := hr d p1 a1 q1 (by omega) k1 (by omega)
  refine ⟨d2, a2, q2, ?_, by omega, by omega, k2, p2⟩
  have hlt : decide (l.length < lim) = true := decide_eq_true (Nat.lt_of_le_of_lt hl (by decide))
  rw [evSs_cons_1, evS_app_6, hi, Rs.of_some, Rs.bindS_ok, e1, Rs.bindS_ok]
  simp only [hlt]
  rw [SRs.bind_nx]
  exact e2
/-- an if that draws its test -/
theorem drS_if {p : Pn} {C : Calls} {c1 c2 : Int} {c : E} {t f : Ss} {r : Ss} {e : Env} {Q : Env → Prop} (h : Dr p c1 (evE C G c e) (fun d => ∃ b, d = .bl b)) (hc : 0 ≤ c2) (ht : DrS p c2 (fun s => (evSs C G t e s).bind fun e s => evSs C G r e s) Q) (hf : DrS p c2 (fun s => (evSs C G f e s).bind fun e s => evSs C G r e s) Q) : DrS p (c1 + c2) (evSs C G (.cons (.ifs c t f) r) e) Q := fun a' q ha hq hb => by
  obtain ⟨d, a1, q1, e1, l1, u1, k1, b, rfl⟩ := h a' q ha hq (by omega)
  have hb2 : DrS p c2 (fun s => (if b then evSs C G t e s else evSs C G f e s).bind fun e s => evSs C G r e s) Q := by
    cases b
    · exact hf
    · exact ht
  obtain ⟨d2, a2, q2, e2, l2, u2, k2, p2⟩ := hb2 a1 q1 (by omega) k1 (by omega)
  refine ⟨d2, a2, q2, ?_, by omega, by omega, k2, p2⟩
  rw [ss_if e1 (vtruth_bl b _)]
  exact e2
end Ms

set_option Elab.async false
set_option linter.all false
set_option autoImplicit false
set_option maxRecDepth 100000
set_option maxHeartbeats 4000000
namespace Ms
/-- a loop over a drawn number, then the rest -/
theorem drR_forD {p : Pn} {C : Calls} {c0 c1 c2 : Int} {m : Nat} {tg : Tg} {it : Src} {b r : Ss} {e : Env} {P : Env → Prop} {Q : D → Prop} (hi : Dr p c0 (evIt C G it e) (fun ds => ∃ n, n ≤ m ∧ ds = rngL 0 n)) (h : ∀ n, n ≤ m → DrS p c1 (forGo tg (evSs C G b) (rngL 0 n) e) P) (h1 : 0 ≤ c1) (hc : 0 ≤ c2) (hr : ∀ e, P e → DrR p c2 (evSs C G r e) Q) : DrR p (c0 + (c1 + c2)) (evSs C G (.cons (.for_ tg it b) r) e) Q := fun a' q ha hq hb => by
  obtain ⟨ds, a0, q0, e0, l0, u0, k0, n, hn, rfl⟩ := hi a' q ha hq (by omega)
  obtain ⟨e', a1, q1, e1, l1, u1, k1, p1⟩ := h n hn a0 q0 (by omega) k0 (by omega)
  obtain ⟨d2, a2, q2, e2, l2, u2, k2, p2⟩ := hr e' p1 a1 q1 (by omega) k1 (by omega)
  refine ⟨d2, a2, q2, ?_, by omega, by omega, k2, p2⟩
  rw [evSs_cons_1, evS_for_17, e0, Rs.bindS_ok, e1, SRs.bind_nx]
  exact e2
/-- range(a draw) -/
theorem dr_rng {p : Pn} {C : Calls} {e : Env} {a : E} {c : Int} {m : Nat} (hm : m ≤ 1000) (h : Dr p c (evE C G a e) (fun d => ∃ r, d = .int r ∧ 0 ≤ r ∧ r < (m : Int) + 1)) : Dr p c (evIt C G (.rng1 a) e) (fun ds => ∃ n, n ≤ m ∧ ds = rngL 0 n) := by
  intro a' q ha hq hb
  obtain ⟨d, a1, q1, e1, l1, u1, k1, r, rfl, r0, r1⟩ := h a' q ha hq hb
  refine ⟨rngL 0 r.toNat, a1, q1, ?_, l1, u1, k1, r.toNat, by omega, rfl⟩
  rw [evIt_rng1_1, e1, Rs.bind_ok, rng1_of (by omega) (by omega)]
  rfl
theorem DrS.imp {p : Pn} {c c' : Int} {m : Sto → SRs} {P P' : Env → Prop} (h : DrS p c m P) (hc : c ≤ c') (hp : ∀ d, P d → P' d) : DrS p c' m P' := fun a q ha hq hb => by
  obtain ⟨d, a', q', e, h1, h2, h3, h4⟩ := h a q ha hq (by omega)
  exact ⟨d, a', q', e, h1, by omega, h3, hp d h4⟩
/-- L[draw of its length] -/
theorem dr_ixlen {p : Pn} {k : Nat} {e : Env} {j : Nat} {L : List D} (h0 : e.get 0 = some (.obj p.i)) (hj : e.get j = some (.lst L)) (hl : 0 < L.length) (hl2 : L.length ≤ 1000) : Dr p 1 (evE (callK G T (k + 1)) G (.ix (.v j) (.call 201 (.cons (.v 0) (.cons (.b1 .len (.v j)) .nil)))) e) (fun d => d ∈ L) := by
  intro a q ha hq hb
  obtain ⟨y, a2, q2, e2, l2, u2, k2, r, rfl, r0, r1⟩ := dr_ev (e := e) (k := k) (b := .b1 .len (.v j)) (m := (L.length : Int)) h0 (fun s => by rw [evE_b1_16, ev_v hj]; rfl) (by omega) (by omega) a q ha hq hb
  obtain ⟨i, rfl⟩ : ∃ i : Nat, r = (i : Int) := ⟨r.toNat, by omega⟩
  have hi : i < L.length := by omega
  refine ⟨L[i], a2, q2, ?_, l2, u2, k2, List.getElem_mem hi⟩
  rw [evE_ix_23, ev_v hj, Rs.bind_ok, e2, Rs.bind_ok, der_lst', ix_nat hi]
  rfl
end Ms

set_option Elab.async false
set_option linter.all false
set_option autoImplicit false
set_option maxRecDepth 100000
set_option maxHeartbeats 4000000
namespace Ms
/-! ## Drawn steps -/
def loopB : Ss → Ss
  | .cons (.for_ _ _ b) _ => b
  | _ => .nil
def appA : Ss → E
  | .cons (.app _ a) _ => a
  | _ => .bad
def stepsBody : Ss := loopB (nxt F__law_steps)
def StI (p : Pn) (L : List D) (M : D) (j : Nat) (e : Env) : Prop := ∃ (l : List St) (x4 x5 x6 x7 : Slot), l.length = j ∧ (∀ t ∈ l, t.ok) ∧ e = [.val (.obj p.i), .val (.lst L), .val M, .own (l.map St.d), x4, x5, x6, x7]
theorem steps_body (p : Pn) (k : Nat) {pool : List (List Nat)} (hp : ∀ x ∈ pool, nameB x = true) (h0 : 0 < pool.length) (h1 : pool.length ≤ 1000) {M d : D} {j : Nat} (hj : j ≤ 100) {l : List St} {x5 x6 x7 : Slot} (hl : l.length = j) (hok : ∀ t ∈ l, t.ok) :
    DrS p 20 (evSs (callK G T (k + 1)) G stepsBody [.val (.obj p.i), .val (.lst (pool.map .str)), .val M, .own (l.map St.d), .val d, x5, x6, x7]) (StI p (pool.map .str) M (j + 1)) := by
  have w1 : (0 : Int) ≤ 1 := by decide
  refine DrS.imp (c := (4 * 1 + (1 + 0)) + ((3 * 1 + (1 + 0)) + ((3 * 1 + (1 + 0)) + (5 + 0)))) (P := StI p (pool.map .str) M (j + 1)) ?_ (by decide) fun _ h => h
  unfold stepsBody F__law_steps
  simp only [nxt, loopB]
  refine drS_set (P := fun d => ∃ x, d = .str x ∧ isIn (.str x) (G 16) = some true) (dr_pick (n := 4) rfl (by decide) (by decide) (by decide) (dr_cons w1 (dr_k w1 ⟨_, rfl, by kernel_rfl⟩) (dr_cons w1 (dr_k w1 ⟨_, rfl, by kernel_rfl⟩) (dr_cons w1 (dr_k w1 ⟨_, rfl, by kernel_rfl⟩) (dr_cons w1 (dr_k w1 ⟨_, rfl, by kernel_rfl⟩) dr_nil))))) (by decide) fun d5 hd5 => ?_
  refine drS_set (P := fun d => ∃ r, d = .int r ∧ 0 ≤ r ∧ r ≤ 99) (dr_pick (n := 3) rfl (by decide) (by decide) (by decide) ?_) (by decide) fun d6 hd6 => ?_
  · refine dr_cons w1 (dr_k w1 ⟨0, rfl, by omega, by omega⟩) (dr_cons w1 ?_ (dr_cons w1 ?_ dr_nil))
    · exact dr_int rfl (by decide) (by decide) fun r r0 r1 => ⟨r, rfl, r0, by omega⟩
    · exact dr_int rfl (by decide) (by decide) fun r r0 r1 => ⟨r, rfl, r0, by omega⟩
  refine drS_set (P := fun d => d = .non ∨ ∃ r : Int, d = .int r ∧ 0 ≤ r ∧ r ≤ 11) (dr_pick (n := 3) rfl (by decide) (by decide) (by decide) ?_) (by decide) fun d7 hd7 => ?_
  · refine dr_cons w1 (dr_k w1 (.inl rfl)) (dr_cons w1 ?_ (dr_cons w1 ?_ dr_nil))
    · exact dr_int rfl (by decide) (by decide) fun r r0 r1 => .inr ⟨r, rfl, r0, by omega⟩
    · exact dr_int rfl (by decide) (by decide) fun r r0 r1 => .inr ⟨r, rfl, r0, by omega⟩
  obtain ⟨kd, rfl, hkd⟩ := hd5
  obtain ⟨w, rfl, hw0, hw1⟩ := hd6
  refine drS_app (i := 3) (l := l.map St.d) (P := fun d => ∃ t : St, d = t.d ∧ t.ok) rfl (by rw [List.length_map]; omega) ?_ (by decide) fun dn hdn => ?_
  · have hde := dr_pick (p := p) (k := k) (e := [.val (.obj p.i), .val (.lst (pool.map .str)), .val M, .own (l.map St.d), .val d, .val (.str kd), .val (.int w), .val d7]) (n := 3) (P := fun d => ∃ x, d = .str x ∧ isIn (.str x) (G 17) = some true) (as := .cons (.k (.str [99, 111, 109, 101])) (.cons (.k (.str [103, 111])) (.cons (.k (.str [100, 105, 109])) .nil))) rfl (by decide) (by decide) (by decide) (dr_cons w1 (dr_k w1 ⟨_, rfl, by kernel_rfl⟩) (dr_cons w1 (dr_k w1 ⟨_, rfl, by kernel_rfl⟩) (dr_cons w1 (dr_k w1 ⟨_, rfl, by kernel_rfl⟩) dr_nil)))
    have hpl := dr_ixlen (p := p) (k := k) (e := [.val (.obj p.i), .val (.lst (pool.map .str)), .val M, .own (l.map St.d), .val d, .val (.str kd), .val (.int w), .val d7]) (j := 1) (L := pool.map .str) rfl rfl (by simpa using h0) (by simpa using h1)
    intro a q ha hq hb
    obtain ⟨_, a1, q1, e1, l1, u1, k1, de, rfl, hde⟩ := hde a q ha hq (by omega)
    obtain ⟨dp, a2, q2, e2, l2, u2, k2, hdp⟩ := hpl a1 q1 (by omega) k1 (by omega)
    obtain ⟨x, hx, rfl⟩ := List.mem_map.mp hdp
    refine ⟨St.d ⟨kd, w, de, x, d7⟩, a2, q2, ?_, by omega, by omega, k2, ⟨kd, w, de, x, d7⟩, rfl, ⟨hkd, hw0, hw1, hde, hp x hx, hd7⟩⟩
    rw [show ((3 : Nat) : Int) = 3 from rfl] at e1
    show evE _ _ (.tup _) [.val (.obj p.i), .val (.lst (pool.map .str)), .val M, .own (l.map St.d), .val d, .val (.str kd), .val (.int w), .val d7] _ = _
    rw [evE_tup_25, evEs_cons_1, ev_v (d := .str kd) rfl, Rs.bind_ok, evEs_cons_1, ev_v (d := .int w) rfl, Rs.bind_ok, evEs_cons_1, e1, Rs.bind_ok, evEs_cons_1, e2, Rs.bind_ok, evEs_cons_1, ev_v (d := d7) rfl, Rs.bind_ok, evEs_nil_0]
    rfl
  · obtain ⟨t, rfl, ht⟩ := hdn
    refine drS_nil ⟨l ++ [t], .val d, .val (.str kd), .val (.int w), .val d7, by simp [hl], fun y hy => ?_, by rw [List.map_append]; rfl⟩
    rcases List.mem_append.mp hy with hy | hy
    · exact hok y hy
    · rw [List.mem_singleton.mp hy]; exact ht
end Ms

set_option Elab.async false
set_option linter.all false
set_option autoImplicit false
set_option maxRecDepth 100000
set_option maxHeartbeats 4000000
namespace Ms
theorem steps_dr (p : Pn) (k : Nat) {pool : List (List Nat)} (hp : ∀ x ∈ pool, nameB x = true) (h0 : 0 < pool.length) (h1 : pool.length ≤ 1000) {most : Nat} (hm : most ≤ 24) : Dr p 500 (callK G T (k + 2) n__law_steps [.obj p.i, .lst (pool.map .str), .int (most : Int)]) (fun d => ∃ l : List St, d = stepsD l ∧ l.length ≤ most ∧ ∀ t ∈ l, t.ok) := by
  refine Dr.eq (m := runB (callK G T (k + 1)) G 8 F__law_steps [.obj p.i, .lst (pool.map .str), .int (most : Int)]) ?_ fun s => by rw [call_eq T__law_steps rfl]
  refine drR_run ?_
  refine DrR.imp (c := 0 + (1 + (24 * 20 + 0))) (P := fun d => ∃ l : List St, d = stepsD l ∧ l.length ≤ most ∧ ∀ t ∈ l, t.ok) ?_ (by decide) fun _ h => h
  refine drR_own (P := fun l => l = []) (Dr.eq (Dr.ok (p := p) (d := ([] : List D)) (P := fun l => l = []) rfl) fun s => by rw [evF_lst_0, evEs_nil_0]; rfl) (by decide) fun l hl => ?_
  subst hl
  have he : (startE 8 [D.obj p.i, .lst (pool.map .str), .int (most : Int)]).set 3 (.own []) = [.val (.obj p.i), .val (.lst (pool.map .str)), .val (.int (most : Int)), .own (([] : List St).map St.d), .non, .non, .non, .non] := rfl
  rw [he]
  refine drR_forD (m := most) (P := fun e => ∃ j, j ≤ most ∧ StI p (pool.map .str) (.int (most : Int)) j e) (dr_rng (by omega) (dr_ev (m := (most : Int) + 1) rfl (fun s => ?_) (by omega) (by omega))) (fun n hn => ?_) (by decide) (by decide) fun e he => ?_
  · rw [evE_bin_3, ev_v (d := .int (most : Int)) rfl, Rs.bind_ok, evE_k_1, Rs.bind_ok]
    rfl
  · have hfor := dr_for (p := p) (tg := .name 4) (body := evSs (callK G T (k + 1)) G stepsBody) (c := 20) (I := StI p (pool.map .str) (.int (most : Int))) (by decide) (rngL 0 n) 0 [.val (.obj p.i), .val (.lst (pool.map .str)), .val (.int (most : Int)), .own (([] : List St).map St.d), .non, .non, .non, .non] ⟨[], .non, .non, .non, .non, rfl, (fun _ h => by cases h), rfl⟩ fun kk d env hk hI => by
      obtain ⟨l, x4, x5, x6, x7, e1, e2, rfl⟩ := hI
      have hkn : kk < n := by
        have := (List.getElem?_eq_some_iff.mp hk).1
        rwa [rng_len] at this
      exact ⟨_, rfl, steps_body p k hp h0 h1 (j := 0 + kk) (by omega) e1 e2⟩
    rw [rng_len] at hfor
    exact hfor.imp (by omega) fun e h => ⟨0 + n, by omega, h⟩
  · obtain ⟨j, hj, l, x4, x5, x6, x7, e1, e2, rfl⟩ := he
    refine DrR.eq (m := evSs (callK G T (k + 1)) G (.cons (.ret (.b1 .tuple (.v 3))) .nil) [.val (.obj p.i), .val (.lst (pool.map .str)), .val (.int (most : Int)), .val (.lst (l.map St.d)), x4, x5, x6, x7]) ?_ fun s => by rw [evSs_frz_2]; rfl
    exact drR_ret (dr_pure (by decide) (fun s => by rw [evE_b1_16, ev_v (d := .lst (l.map St.d)) rfl]; rfl) ⟨l, rfl, by omega, e2⟩)
end Ms

set_option Elab.async false
set_option linter.all false
set_option autoImplicit false
set_option maxRecDepth 100000
set_option maxHeartbeats 4000000
namespace Ms
/-! ## Drawn names -/
theorem dr_pickm {p : Pn} {k : Nat} {e : Env} {as : Es} {n : Nat} {m c : Int} {P : D → Prop} (hm : m = (n : Int)) (h0 : e.get 0 = some (.obj p.i)) (hc : 0 ≤ c) (hn : 0 < n) (hn2 : n ≤ 1000) (h : Dr p c (evEs (callK G T (k + 1)) G as e) (Ds P n)) :
    Dr p (c + (1 + 0)) (evE (callK G T (k + 1)) G (.ix (.fl (.lst as)) (.call 201 (.cons (.v 0) (.cons (.k (.int m)) .nil)))) e) P := by
  subst hm
  exact dr_pick h0 hc hn hn2 h
/-- a statement, then the rest -/
theorem drR_seq {p : Pn} {C : Calls} {c1 c2 : Int} {st : S} {r : Ss} {e : Env} {P : Env → Prop} {Q : D → Prop} (h : DrS p c1 (evS C G st e) P) (hc : 0 ≤ c2) (hr : ∀ e, P e → DrR p c2 (evSs C G r e) Q) : DrR p (c1 + c2) (evSs C G (.cons st r) e) Q := fun a' q ha hq hb => by
  obtain ⟨e', a1, q1, e1, l1, u1, k1, p1⟩ := h a' q ha hq (by omega)
  obtain ⟨d2, a2, q2, e2, l2, u2, k2, p2⟩ := hr e' p1 a1 q1 (by omega) k1 (by omega)
  refine ⟨d2, a2, q2, ?_, by omega, by omega, k2, p2⟩
  rw [evSs_cons_1, e1, SRs.bind_nx]
  exact e2
theorem drS_seq {p : Pn} {C : Calls} {c1 c2 : Int} {st : S} {r : Ss} {e : Env} {P : Env → Prop} {Q : Env → Prop} (h : DrS p c1 (evS C G st e) P) (hc : 0 ≤ c2) (hr : ∀ e, P e → DrS p c2 (evSs C G r e) Q) : DrS p (c1 + c2) (evSs C G (.cons st r) e) Q := fun a' q ha hq hb => by
  obtain ⟨e', a1, q1, e1, l1, u1, k1, p1⟩ := h a' q ha hq (by omega)
  obtain ⟨d2, a2, q2, e2, l2, u2, k2, p2⟩ := hr e' p1 a1 q1 (by omega) k1 (by omega)
  refine ⟨d2, a2, q2, ?_, by omega, by omega, k2, p2⟩
  rw [evSs_cons_1, e1, SRs.bind_nx]
  exact e2
/-- a statement that draws nothing -/
theorem drS_pure {p : Pn} {C : Calls} {st : S} {e e' : Env} {P : Env → Prop} (h : ∀ s, evS C G st e s = .nx e' s) (hp : P e') : DrS p 0 (evS C G st e) P := fun a q ha hq _ => ⟨e', a, q, h _, by omega, by omega, hq, hp⟩
theorem DrS.eq {p : Pn} {c : Int} {m m' : Sto → SRs} {P : Env → Prop} (h : DrS p c m P) (e : ∀ s, m' s = m s) : DrS p c m' P := by
  rw [show m' = m from funext e]; exact h
/-- a text's sign -/
theorem ixs_nat {x : List Nat} {i : Nat} (hx : x.length ≤ lim) (h : i < x.length) : index (.str x) (.int (i : Int)) = some (.str [x[i]]) := by
  have hh : decide (x.length ≤ lim) = true := decide_eq_true hx
  simp only [index, hh]
  rw [ix_lt _ _ (by omega) (by omega)]
  simp [h]
def abc : List Nat := [97, 98, 99, 100, 101, 102, 103, 104, 105, 106, 107, 108, 109, 110, 111, 112, 113, 114, 115, 116, 117, 118, 119, 120, 121, 122]
theorem abc_r : abc = List.range' 97 26 := by rfl
theorem abc_ix {i : Nat} (h : i < 26) : index (.str abc) (.int (i : Int)) = some (.str [97 + i]) := by
  have hl : abc.length = 26 := rfl
  rw [ixs_nat (by rw [hl]; exact le_lim (m := 26) (by omega) (by decide)) (by rw [hl]; exact h)]
  simp only [abc_r, List.getElem_range']
  simp
theorem abc_ltr {i : Nat} (h : i < 26) : ltrs.contains (97 + i) = true := by
  have : (abc.all fun c => ltrs.contains c) = true := by kernel_rfl
  have h1 := List.all_eq_true.mp this (97 + i) (by rw [abc_r, List.mem_range'_1]; omega)
  exact h1
def begs : List (List Nat) := [[], [], [97], [122, 57], [116, 105, 116, 108, 101], [109, 48, 109, 48, 109, 48], [98]]
def two (c : Nat) : List Nat := [97 + c / 26, 97 + c % 26]
theorem two_inj {a b : Nat} (h : two a = two b) : a = b := by
  simp only [two, List.cons.injEq, and_true] at h
  omega
theorem app_two {x y : List Nat} {a b : Nat} (h : x ++ two a = y ++ two b) : a = b := by
  have h1 := congrArg List.reverse h
  simp only [two, List.reverse_append, List.reverse_cons, List.reverse_nil, List.nil_append, List.cons_append, List.cons.injEq] at h1
  omega
theorem name_two {b : List Nat} {c : Nat} (hb : b ∈ begs) (hc : c < 676) : nameB (b ++ two c) = true := by
  have h1 := abc_ltr (show c / 26 < 26 by omega)
  have h2 := abc_ltr (show c % 26 < 26 by omega)
  have hB : (begs.all fun b => decide (b.length ≤ 6) && (b.all fun c => ltrs.contains c || fgs.contains c) && (b.isEmpty || ltrs.contains (b.headD 0))) = true := by kernel_rfl
  have hb' := List.all_eq_true.mp hB b hb
  simp only [Bool.and_eq_true, decide_eq_true_eq] at hb'
  obtain ⟨⟨b1, b2⟩, b3⟩ := hb'
  have hl : (b ++ two c).length = b.length + 2 := by simp [two]
  unfold nameB
  rw [decide_eq_true (by omega), decide_eq_true (by omega), List.all_append, b2]
  simp only [two, List.all_cons, List.all_nil, h1, h2, Bool.true_or, Bool.and_self, Bool.true_and, Bool.and_true]
  cases b with
  | nil => simpa using h1
  | cons x r => simpa using b3
def NL (c st : Nat) (l : List (List Nat)) : Prop := ∀ i (h : i < l.length), ∃ b ∈ begs, l[i] = b ++ two ((c + i * st) % 676)
theorem NL_app {c st : Nat} {l : List (List Nat)} {b : List Nat} (h : NL c st l) (hb : b ∈ begs) : NL c st (l ++ [b ++ two ((c + l.length * st) % 676)]) := fun i hi => by
  by_cases hlt : i < l.length
  · obtain ⟨b', h1, h2⟩ := h i hlt
    exact ⟨b', h1, by rw [List.getElem_append_left hlt]; exact h2⟩
  · have : i = l.length := by simp at hi; omega
    subst this
    exact ⟨b, hb, by simp⟩
theorem NL_ok {c st : Nat} {l : List (List Nat)} (h : NL c st l) (h2 : st % 2 = 1) (h13 : st % 13 ≠ 0) (hl : l.length ≤ 676) : l.Nodup ∧ ∀ x ∈ l, nameB x = true ∧ 2 ≤ x.length ∧ x.length ≠ 6 := by
  refine ⟨List.pairwise_iff_getElem.mpr fun i j hi hj hij he => ?_, fun x hx => ?_⟩
  · obtain ⟨b, _, e1⟩ := h i hi
    obtain ⟨b', _, e2⟩ := h j hj
    rw [e1, e2] at he
    have := codes_inj h2 h13 (by omega) (by omega) (app_two he)
    omega
  · obtain ⟨i, hi, rfl⟩ := List.mem_iff_getElem.mp hx
    obtain ⟨b, hb, e⟩ := h i hi
    rw [e]
    have hB : (begs.all fun b => decide (b.length + 2 ≠ 6)) = true := by kernel_rfl
    have hb' := of_decide_eq_true (List.all_eq_true.mp hB b hb)
    exact ⟨name_two hb (Nat.mod_lt _ (by decide)), by simp [two], by simpa [two] using hb'⟩
/-- one of them by a single letter -/
theorem names_set {l : List (List Nat)} {x : List Nat} {i : Nat} (h : l.Nodup) (ho : ∀ x ∈ l, nameB x = true ∧ 2 ≤ x.length ∧ x.length ≠ 6) (hx : nameB x = true) (hx1 : x.length = 1) (hi : i < l.length) : (l.set i x).Nodup ∧ ∀ y ∈ l.set i x, nameB y = true ∧ y.length ≠ 6 := by
  refine ⟨List.pairwise_iff_getElem.mpr fun a b ha hb hab he => ?_, fun y hy => ?_⟩
  · rw [List.length_set] at ha hb
    rw [List.getElem_set, List.getElem_set] at he
    split at he <;> split at he
    · omega
    · have := (ho l[b] (List.getElem_mem hb)).2.1
      rw [← he] at this; omega
    · have := (ho l[a] (List.getElem_mem ha)).2.1
      rw [he] at this; omega
    · exact List.pairwise_iff_getElem.mp h a b ha hb hab he
  · rcases List.mem_or_eq_of_mem_set hy with hy | rfl
    · exact ⟨(ho y hy).1, (ho y hy).2.2⟩
    · exact ⟨hx, by omega⟩
end Ms

set_option Elab.async false
set_option linter.all false
set_option autoImplicit false
set_option maxRecDepth 100000
set_option maxHeartbeats 4000000
namespace Ms
def namesBody : Ss := loopB (nxt (nxt F__law_names))
def nmE (p : Pn) (m c st : Nat) (l : List (List Nat)) (x6 x7 : Slot) : Env := [.val (.obj p.i), .val (.int (m : Int)), .val (.str abc), .own (l.map .str), .val (.int (st : Int)), .val (.int (((c + l.length * st) % 676 : Nat) : Int)), x6, x7]
def NmI (p : Pn) (m c st : Nat) (j : Nat) (e : Env) : Prop := ∃ (l : List (List Nat)) (x6 x7 : Slot), l.length = j ∧ NL c st l ∧ e = nmE p m c st l x6 x7
theorem names_body (p : Pn) (k m c st : Nat) {j : Nat} (hj : j ≤ 1000) {l : List (List Nat)} {x6 x7 : Slot} (hl : l.length = j) (hok : NL c st l) : DrS p 9 (evSs (callK G T (k + 1)) G namesBody (nmE p m c st l x6 x7)) (NmI p m c st (j + 1)) := by
  have w1 : (0 : Int) ≤ 1 := by decide
  refine DrS.imp (c := (7 * 1 + (1 + 0)) + 0) (P := NmI p m c st (j + 1)) ?_ (by decide) fun _ h => h
  unfold namesBody F__law_names
  simp only [nxt, loopB]
  refine drS_set (P := fun d => ∃ b, d = .str b ∧ b ∈ begs) (dr_pick (n := 7) rfl (by decide) (by decide) (by decide) ?_) (by decide) fun d hd => ?_
  · refine dr_cons w1 (dr_k w1 ⟨_, rfl, ?_⟩) (dr_cons w1 (dr_k w1 ⟨_, rfl, ?_⟩) (dr_cons w1 (dr_k w1 ⟨_, rfl, ?_⟩) (dr_cons w1 (dr_k w1 ⟨_, rfl, ?_⟩) (dr_cons w1 (dr_k w1 ⟨_, rfl, ?_⟩) (dr_cons w1 (dr_k w1 ⟨_, rfl, ?_⟩) (dr_cons w1 (dr_k w1 ⟨_, rfl, ?_⟩) dr_nil))))))
    all_goals exact List.contains_iff_mem.mp (by kernel_rfl)
  · obtain ⟨b, rfl, hb⟩ := hd
    intro a q ha hq _
    refine ⟨nmE p m c st (l ++ [b ++ two ((c + l.length * st) % 676)]) x6 (.val (.str b)), a, q, ?_, by omega, by omega, hq, _, _, _, by simp [hl], NL_app hok hb, rfl⟩
    generalize hN : (c + l.length * st) % 676 = N
    have hN1 : N < 676 := by rw [← hN]; exact Nat.mod_lt _ (by decide)
    have i1 := abc_ix (show N / 26 < 26 by omega)
    have i2 := abc_ix (show N % 26 < 26 by omega)
    rw [show ((N / 26 : Nat) : Int) = (N : Int) / 26 by omega] at i1
    rw [show ((N % 26 : Nat) : Int) = (N : Int) % 26 by omega] at i2
    have e3 : (((c + (l.length + 1) * st) % 676 : Nat) : Int) = ((N : Int) + (st : Int)) % 676 := by
      rw [← hN, Nat.add_mul, Nat.one_mul, ← Nat.add_assoc]
      omega
    have hl1 : l.length < 16777216 := by omega
    have hbl : b.length ≤ 6 := by
      have hB : (begs.all fun b => decide (b.length ≤ 6)) = true := by kernel_rfl
      exact of_decide_eq_true (List.all_eq_true.mp hB b hb)
    have hb1 : b.length + 1 ≤ 16777216 := by omega
    have hb2 : b.length + 1 + 1 ≤ 16777216 := by omega
    simp [nmE, Env.getO, hN, i1, i2, e3, binop, lim, hl1, hb1, hb2, two, -Int.natCast_emod, -Int.natCast_ediv, -Int.natCast_add, -Int.natCast_mul]
end Ms
namespace Ms
theorem names_dr (p : Pn) (k : Nat) {m : Nat} (hm : m ≤ 100) : Dr p 1000 (callK G T (k + 2) n__law_names [.obj p.i, .int (m : Int)]) (fun d => ∃ l : List (List Nat), d = .lst (l.map .str) ∧ l.length = m ∧ l.Nodup ∧ ∀ x ∈ l, nameB x = true ∧ x.length ≠ 6) := by
  have w1 : (0 : Int) ≤ 1 := by decide
  refine Dr.eq (m := runB (callK G T (k + 1)) G 8 F__law_names [.obj p.i, .int (m : Int)]) ?_ fun s => by rw [call_eq T__law_names rfl]
  refine drR_run ?_
  refine DrR.imp (c := 0 + (11 + (900 + (3 + 0)))) (P := fun d => ∃ l : List (List Nat), d = .lst (l.map .str) ∧ l.length = m ∧ l.Nodup ∧ ∀ x ∈ l, nameB x = true ∧ x.length ≠ 6) ?_ (by decide) fun _ h => h
  refine drR_seq (P := fun e => e = [.val (.obj p.i), .val (.int (m : Int)), .val (.str abc), .own [], .non, .non, .non, .non]) (drS_pure (fun s => by simp [startE, lim]; rfl) rfl) (by decide) fun e he => ?_
  subst he
  refine drR_seq (P := fun e => ∃ c st : Nat, st % 2 = 1 ∧ st % 13 ≠ 0 ∧ c < 676 ∧ e = nmE p m c st [] .non .non) ?_ (by decide) fun e he => ?_
  · have h1 := dr_pickm (p := p) (k := k) (n := 8) (m := 8) (c := ((8 : Nat) : Int) * 1) (e := [.val (.obj p.i), .val (.int (m : Int)), .val (.str abc), .own [], .non, .non, .non, .non]) (P := fun d => ∃ s : Nat, d = .int (s : Int) ∧ s % 2 = 1 ∧ s % 13 ≠ 0) (as := (.cons (.k (.int 1)) (.cons (.k (.int 3)) (.cons (.k (.int 5)) (.cons (.k (.int 7)) (.cons (.k (.int 9)) (.cons (.k (.int 11)) (.cons (.k (.int 15)) (.cons (.k (.int 17)) .nil))))))))) rfl rfl (by decide) (by decide) (by decide) (dr_cons w1 (dr_k w1 ⟨1, rfl, by decide⟩) (dr_cons w1 (dr_k w1 ⟨3, rfl, by decide⟩) (dr_cons w1 (dr_k w1 ⟨5, rfl, by decide⟩) (dr_cons w1 (dr_k w1 ⟨7, rfl, by decide⟩) (dr_cons w1 (dr_k w1 ⟨9, rfl, by decide⟩) (dr_cons w1 (dr_k w1 ⟨11, rfl, by decide⟩) (dr_cons w1 (dr_k w1 ⟨15, rfl, by decide⟩) (dr_cons w1 (dr_k w1 ⟨17, rfl, by decide⟩) dr_nil))))))))
    have h2 := dr_draw p k (m := 13) (by decide) (by decide)
    have h3 := dr_draw p k (m := 676) (by decide) (by decide)
    generalize E.ix (.fl (.lst (.cons (.k (.int 1)) (.cons (.k (.int 3)) (.cons (.k (.int 5)) (.cons (.k (.int 7)) (.cons (.k (.int 9)) (.cons (.k (.int 11)) (.cons (.k (.int 15)) (.cons (.k (.int 17)) .nil)))))))))) (.call 201 (.cons (.v 0) (.cons (.k (.int 8)) .nil))) = X at h1 ⊢
    intro a q ha hq hb
    obtain ⟨_, a1, q1, e1, l1, u1, k1, s0, rfl, s1, s2⟩ := h1 a q ha hq (by omega)
    obtain ⟨_, a2, q2, e2, l2, u2, k2, r, rfl, r0, r1⟩ := h2 a1 q1 (by omega) k1 (by omega)
    obtain ⟨_, a3, q3, e3, l3, u3, k3, c, rfl, c0, c1⟩ := h3 a2 q2 (by omega) k2 (by omega)
    obtain ⟨R, rfl⟩ : ∃ R : Nat, r = (R : Int) := ⟨r.toNat, by omega⟩
    obtain ⟨N, rfl⟩ : ∃ R : Nat, c = (R : Int) := ⟨c.toNat, by omega⟩
    refine ⟨_, a3, q3, ?_, by omega, by omega, k3, N, s0 + 26 * R, by omega, by omega, by omega, rfl⟩
    have hs : small 26 = true := by decide
    have hN : N % 676 = N := Nat.mod_eq_of_lt (by omega)
    simp [e1, e2, e3, binop, hs, lim, setRev, nmE, hN]
  · obtain ⟨c, st, t1, t2, t3, rfl⟩ := he
    have hr : rng1 (.int (m : Int)) = some (rngL 0 m) := by
      have := rng1_of (i := (m : Int)) (by omega) (by omega)
      rwa [Int.toNat_natCast] at this
    refine drR_for (ds := rngL 0 m) (P := NmI p m c st m) (fun s => by simp [nmE, hr]) ?_ (by decide) fun e he => ?_
    · have hfor := dr_for (p := p) (tg := .name 6) (body := evSs (callK G T (k + 1)) G namesBody) (c := 9) (I := NmI p m c st) (by decide) (rngL 0 m) 0 (nmE p m c st [] .non .non) ⟨[], .non, .non, rfl, (fun i hi => by simp at hi), rfl⟩ fun kk d env hk hI => by
        obtain ⟨l, x6, x7, e1, e2, rfl⟩ := hI
        have hkn : kk < m := by
          have := (List.getElem?_eq_some_iff.mp hk).1
          rwa [rng_len] at this
        exact ⟨nmE p m c st l (.val d) x7, rfl, names_body p k m c st (by omega) e1 e2⟩
      rw [rng_len, Nat.zero_add] at hfor
      exact hfor.imp (by omega) fun e h => h
    · obtain ⟨l, x6, x7, e1, e2, rfl⟩ := he
      obtain ⟨o1, o2⟩ := NL_ok e2 t1 t2 (by omega)
      refine drR_seq (P := fun e => ∃ (l' : List (List Nat)) (x5 : Slot), l'.length = m ∧ l'.Nodup ∧ (∀ x ∈ l', nameB x = true ∧ x.length ≠ 6) ∧ e = [.val (.obj p.i), .val (.int (m : Int)), .val (.str abc), .own (l'.map .str), .val (.int (st : Int)), x5, x6, x7]) ?_ (by decide) fun e he => ?_
      · by_cases h0 : m = 0
        · subst h0
          have : l = [] := List.length_eq_zero_iff.mp e1
          subst this
          intro a q ha hq _
          exact ⟨nmE p 0 c st [] x6 x7, a, q, by simp [nmE, cmpop, truthR, truth], by omega, by omega, hq, [], _, rfl, List.nodup_nil, (fun x h => by cases h), rfl⟩
        · have h1 := dr_draw p k (m := 6) (by decide) (by decide)
          have h2 := dr_draw p k (m := 26) (by decide) (by decide)
          have h3 := dr_draw p k (m := (m : Int)) (by omega) (by omega)
          have hm0 : 0 < m := by omega
          intro a q ha hq hb
          obtain ⟨_, a1, q1, f1, l1, u1, k1, r, rfl, r0, r1⟩ := h1 a q ha hq (by omega)
          by_cases hr0 : r = 0
          · subst hr0
            obtain ⟨_, a2, q2, f2, l2, u2, k2, c', rfl, c0, c1⟩ := h2 a1 q1 (by omega) k1 (by omega)
            obtain ⟨_, a3, q3, f3, l3, u3, k3, y, rfl, y0, y1⟩ := h3 a2 q2 (by omega) k2 (by omega)
            obtain ⟨Y, rfl⟩ : ∃ R : Nat, y = (R : Int) := ⟨y.toNat, by omega⟩
            obtain ⟨N, rfl⟩ : ∃ R : Nat, c' = (R : Int) := ⟨c'.toNat, by omega⟩
            have hYl : Y < l.length := by omega
            have hNm : nameB [97 + N] = true := by
              have := abc_ltr (i := N) (by omega)
              simp only [nameB, List.length_cons, List.length_nil, List.headD_cons, List.all_cons, List.all_nil, this]
              rfl
            obtain ⟨z1, z2⟩ := names_set o1 o2 hNm rfl hYl
            refine ⟨_, a3, q3, ?_, by omega, by omega, k3, l.set Y [97 + N], .val (.int (((c + l.length * st) % 676 : Nat) : Int)), by rw [List.length_set]; exact e1, z1, z2, rfl⟩
            have i1 := abc_ix (show N < 26 by omega)
            have hY : (Y : Int) < m := y1
            simp [nmE, Env.getO, cmpop, pyEq, okEq, truthR, truth, f1, f2, f3, i1, setOO, ixPos, e1, hm0, hY, List.map_set]
          · refine ⟨_, a1, q1, ?_, by omega, by omega, k1, l, .val (.int (((c + l.length * st) % 676 : Nat) : Int)), e1, o1, fun x hx => ⟨(o2 x hx).1, (o2 x hx).2.2⟩, rfl⟩
            have hr1 : (r == 0) = false := by simpa using hr0
            simp [nmE, cmpop, pyEq, okEq, truthR, truth, f1, hr1, hm0]
      · obtain ⟨l', x5, h1, h2, h3, rfl⟩ := he
        refine DrR.eq (m := evSs (callK G T (k + 1)) G (.cons (.ret (.v 3)) .nil) [.val (.obj p.i), .val (.int (m : Int)), .val (.str abc), .val (.lst (l'.map .str)), .val (.int (st : Int)), x5, x6, x7]) ?_ fun s => by rw [evSs_frz_2]; rfl
        exact drR_ret (dr_pure (by decide) (fun s => ev_v rfl) ⟨l', rfl, h1, h2, h3⟩)
end Ms

set_option Elab.async false
set_option linter.all false
set_option autoImplicit false
set_option maxRecDepth 100000
set_option maxHeartbeats 4000000
namespace Ms
/-! ## Rules of evaluation for simp -/
@[simp] theorem z_truthR_bl (b : Bool) (s : Sto) : truthR (.bl b) s = .ok b s := rfl
@[simp] theorem z_truthR_int (i : Int) (s : Sto) : truthR (.int i) s = .ok (i != 0) s := rfl
@[simp] theorem z_truthR_non (s : Sto) : truthR .non s = .ok false s := rfl
@[simp] theorem z_truthR_tup (l : List D) (s : Sto) : truthR (.tup l) s = .ok (!l.isEmpty) s := rfl
@[simp] theorem z_truthR_lst (l : List D) (s : Sto) : truthR (.lst l) s = .ok (!l.isEmpty) s := rfl
@[simp] theorem z_eq_int (a b : Int) : cmpop .eq (.int a) (.int b) = some (a == b) := by simp [cmpop, pyEq, okEq]
@[simp] theorem z_ne_int (a b : Int) : cmpop .ne (.int a) (.int b) = some (a != b) := by simp [cmpop, pyEq, okEq, bne]
@[simp] theorem z_eq_str (a b : List Nat) : cmpop .eq (.str a) (.str b) = some (a == b) := by simp [cmpop, pyEq, okEq]
@[simp] theorem z_ne_str (a b : List Nat) : cmpop .ne (.str a) (.str b) = some (a != b) := by simp [cmpop, pyEq, okEq, bne]
@[simp] theorem z_lt_int (a b : Int) : cmpop .lt (.int a) (.int b) = some (decide (a < b)) := rfl
@[simp] theorem z_le_int (a b : Int) : cmpop .le (.int a) (.int b) = some (decide (a ≤ b)) := rfl
@[simp] theorem z_gt_int (a b : Int) : cmpop .gt (.int a) (.int b) = some (decide (b < a)) := rfl
@[simp] theorem z_ge_int (a b : Int) : cmpop .ge (.int a) (.int b) = some (decide (b ≤ a)) := rfl
@[simp] theorem z_lt_str (a b : List Nat) : cmpop .lt (.str a) (.str b) = some (ltL a b) := rfl
@[simp] theorem z_isin (a b : D) : cmpop .isin a b = isIn a b := rfl
@[simp] theorem z_notin (a b : D) : cmpop .notin a b = (isIn a b).map (fun x => !x) := rfl
@[simp] theorem z_isIn_lst (x : List Nat) (l : List (List Nat)) : isIn (.str x) (.lst (l.map .str)) = some (decide (x ∈ l)) := isIn_strs x l
@[simp] theorem z_add_int (a b : Int) : binop .add (.int a) (.int b) = some (.int (a + b)) := rfl
@[simp] theorem z_sub_int (a b : Int) : binop .sub (.int a) (.int b) = some (.int (a - b)) := rfl
theorem z_add_str {x y : List Nat} (h : x.length + y.length ≤ lim) : binop .add (.str x) (.str y) = some (.str (x ++ y)) := by simp [binop, h]
theorem z_add_tup {x y : List D} (h : x.length + y.length ≤ lim) : binop .add (.tup x) (.tup y) = some (.tup (x ++ y)) := by simp [binop, h]
@[simp] theorem z_isTy_str (s : Sto) (x : List Nat) (t : Ty) : isTy s (.str x) t = some (t == .str) := by cases t <;> rfl
@[simp] theorem z_isTy_int (s : Sto) (x : Int) (t : Ty) : isTy s (.int x) t = some (t == .int) := by cases t <;> rfl
@[simp] theorem z_isTy_non (s : Sto) (t : Ty) : isTy s .non t = some false := by cases t <;> rfl
@[simp] theorem z_isTy_tup (s : Sto) (l : List D) (t : Ty) : isTy s (.tup l) t = some (t == .tup || t == .tupLst) := by cases t <;> rfl
@[simp] theorem z_isTy_lst (s : Sto) (l : List D) (t : Ty) : isTy s (.lst l) t = some (t == .lst || t == .tupLst) := by cases t <;> rfl
@[simp] theorem z_isTy_bl (s : Sto) (b : Bool) (t : Ty) : isTy s (.bl b) t = some (t == .bool || t == .int) := by cases t <;> rfl
@[simp] theorem z_isTy_dct (s : Sto) (b : List (D × D)) (t : Ty) : isTy s (.dct b) t = some false := by cases t <;> rfl
@[simp] theorem z_len_lst (l : List D) : b1 .len (.lst l) = some (.int l.length) := rfl
@[simp] theorem z_len_tup (l : List D) : b1 .len (.tup l) = some (.int l.length) := rfl
theorem z_len_str {x : List Nat} (h : x.length ≤ lim) : b1 .len (.str x) = some (.int x.length) := by simp [b1, h]
@[simp] theorem z_tuple_lst (l : List D) : b1 .tuple (.lst l) = some (.tup l) := rfl
@[simp] theorem z_tuple_tup (l : List D) : b1 .tuple (.tup l) = some (.tup l) := rfl
@[simp] theorem z_int_bl (b : Bool) : b1 .int (.bl b) = some (.int (cond b 1 0)) := rfl
@[simp] theorem z_int_int (i : Int) : b1 .int (.int i) = some (.int i) := rfl
@[simp] theorem z_getO (e : Env) (i : Nat) : e.getO i = (match e[i]? with
  | some (.own l) => some l
  | _ => none) := rfl
@[simp] theorem z_seq_tup (l : List D) : seqIt (.tup l) = some l := rfl
@[simp] theorem z_seq_lst (l : List D) : seqIt (.lst l) = some l := rfl
@[simp] theorem z_optInt (i : Int) : optInt (.int i) = some i := rfl
@[simp] theorem z_ix0 (a : D) (l : List D) : index (.tup (a :: l)) (.int 0) = some a := index_0 a l
@[simp] theorem z_ix1 (a b : D) (l : List D) : index (.tup (a :: b :: l)) (.int 1) = some b := index_1 a b l
@[simp] theorem z_ix2 (a b c : D) (l : List D) : index (.tup (a :: b :: c :: l)) (.int 2) = some c := index_2 a b c l
@[simp] theorem z_ix3 (a b c d : D) (l : List D) : index (.tup (a :: b :: c :: d :: l)) (.int 3) = some d := index_3 a b c d l
@[simp] theorem z_ix5 (a b c d f g : D) (l : List D) : index (.tup (a :: b :: c :: d :: f :: g :: l)) (.int 5) = some g := index_5 a b c d f g l
theorem lt_lim {n m : Nat} (h : n ≤ m) (hm : m < 16777216) : n < lim := Nat.lt_of_le_of_lt h hm
end Ms

set_option Elab.async false
set_option linter.all false
set_option autoImplicit false
set_option maxRecDepth 100000
set_option maxHeartbeats 4000000
namespace Ms
/-! ## Drawn masters: the places of one -/
theorem wins_perm {α : Type} (l : List α) (i : Nat) (x : α) : (l.take i ++ x :: l.drop i).Perm (x :: l) := by
  have := List.perm_middle (a := x) (l₁ := l.take i) (l₂ := l.drop i)
  rwa [List.take_append_drop] at this
theorem map_ins {α β : Type} (f : α → β) (l : List α) (i : Nat) (x : α) : (l.take i ++ x :: l.drop i).map f = (l.map f).take i ++ f x :: (l.map f).drop i := by
  rw [List.map_append, List.map_cons, List.map_take, List.map_drop]
theorem nodup_ins {α β : Type} {f : α → β} {l : List α} {x : α} (i : Nat) (h : (l.map f).Nodup) (hx : f x ∉ l.map f) : ((l.take i ++ x :: l.drop i).map f).Nodup := by
  rw [((wins_perm l i x).map f).nodup_iff, List.map_cons]
  exact List.nodup_cons.mpr ⟨hx, h⟩
def ownBody : Ss := loopB (nxt (nxt (nxt (loopB (nxt (nxt F__law_masters))))))
/-- places by the first j names of a pool -/
structure PlsJ (pool : List (List Nat)) (j : Nat) (ps : List Pl) : Prop where
  len : ps.length ≤ 8
  ok : ∀ q ∈ ps, q.ok
  nod : (ps.map Pl.nm).Nodup
  sub : ∀ q ∈ ps, q.nm ∈ pool.take j
def owE (p : Pn) (v1 v2 v3 v4 v5 v6 : Slot) (ps : List Pl) (v8 : Slot) : Env := [.val (.obj p.i), v1, v2, v3, v4, v5, v6, .own (ps.map Pl.d), v8]
def OwI (p : Pn) (v1 v2 v3 v4 v5 v6 : Slot) (pool : List (List Nat)) (j : Nat) (e : Env) : Prop := ∃ (ps : List Pl) (v8 : Slot), PlsJ pool j ps ∧ e = owE p v1 v2 v3 v4 v5 v6 ps v8
theorem own_body (p : Pn) (k : Nat) {v1 v2 v3 v4 v5 v6 : Slot} {pool : List (List Nat)} (hp : pool.Nodup) (hn : ∀ x ∈ pool, nameB x = true) {j : Nat} (hj : j < pool.length) {ps : List Pl} (h : PlsJ pool j ps) :
    DrS p 1002 (evSs (callK G T (k + 4)) G ownBody (owE p v1 v2 v3 v4 v5 v6 ps (.val (.str pool[j])))) (OwI p v1 v2 v3 v4 v5 v6 pool (j + 1)) := by
  have h1 := dr_draw p (k + 3) (m := 3) (by decide) (by decide)
  have h2 := dr_draw p (k + 3) (m := (ps.length : Int) + 1) (by omega) (by have := h.len; omega)
  have h3 := place_dr p k (hn pool[j] (List.getElem_mem hj))
  unfold ownBody F__law_masters
  simp only [nxt, loopB]
  have keep : OwI p v1 v2 v3 v4 v5 v6 pool (j + 1) (owE p v1 v2 v3 v4 v5 v6 ps (.val (.str pool[j]))) := ⟨ps, _, ⟨h.len, h.ok, h.nod, fun q hq => by
    have := h.sub q hq
    rw [List.take_add_one]
    exact List.mem_append.mpr (.inl this)⟩, rfl⟩
  intro a q ha hq hb
  obtain ⟨_, a1, q1, f1, l1, u1, k1, r, rfl, r0, r1⟩ := h1 a q ha hq (by omega)
  by_cases hr : r = 0
  · by_cases h8 : ps.length < 8
    · obtain ⟨_, a2, q2, f2, l2, u2, k2, y, rfl, y0, y1⟩ := h2 a1 q1 (by omega) k1 (by omega)
      obtain ⟨_, a3, q3, f3, l3, u3, k3, pl, rfl, o1, o2⟩ := h3 a2 q2 (by omega) k2 (by omega)
      obtain ⟨Y, rfl⟩ : ∃ R : Nat, y = (R : Int) := ⟨y.toNat, by omega⟩
      have hY : Y ≤ ps.length := by omega
      have hfr : pl.nm ∉ ps.map Pl.nm := by
        rw [o2]
        intro hm
        obtain ⟨t, ht, e⟩ := List.mem_map.mp hm
        have := h.sub t ht
        rw [e] at this
        exact nodup_take hp hj this
      refine ⟨owE p v1 v2 v3 v4 v5 v6 (ps.take Y ++ pl :: ps.drop Y) (.val (.str pool[j])), a3, q3, ?_, by omega, by omega, k3, _, _, ⟨?_, ?_, nodup_ins Y h.nod hfr, ?_⟩, rfl⟩
      · subst hr
        have hl : ps.length < 1000000 := by omega
        have hi : (ps.length : Int) < 8 := by omega
        simp [owE, f1, f2, f3, hi, insO, hY, hl, map_ins, -List.map_append]
      · have := (wins_perm ps Y pl).length_eq
        rw [List.length_cons] at this
        omega
      · intro t ht
        rcases List.mem_cons.mp ((wins_perm ps Y pl).mem_iff.mp ht) with rfl | ht
        · exact o1
        · exact h.ok t ht
      · intro t ht
        rw [List.take_add_one, List.getElem?_eq_getElem hj]
        rcases List.mem_cons.mp ((wins_perm ps Y pl).mem_iff.mp ht) with rfl | ht
        · rw [o2]; exact List.mem_append.mpr (.inr (by simp))
        · exact List.mem_append.mpr (.inl (h.sub t ht))
    · refine ⟨_, a1, q1, ?_, by omega, by omega, k1, keep⟩
      subst hr
      have hi : ¬ ((ps.length : Int) < 8) := by omega
      simp [owE, f1, hi]
  · refine ⟨_, a1, q1, ?_, by omega, by omega, k1, keep⟩
    have hr1 : (r == 0) = false := by simpa using hr
    simp [owE, f1, hr1]
end Ms

set_option Elab.async false
set_option linter.all false
set_option autoImplicit false
set_option maxRecDepth 100000
set_option maxHeartbeats 4000000
namespace Ms
/-! ## Drawn masters -/
def maBody : Ss := loopB (nxt (nxt F__law_masters))
/-- masters by the first j names -/
structure MasJ (N : List (List Nat)) (j : Nat) (ms : List Ma) : Prop where
  len : ms.length = j
  ok : ∀ m ∈ ms, m.ok
  nod : (ms.map Ma.nm).Nodup
  ix : ∀ m ∈ ms, ∃ i, i < j ∧ N[i]? = some m.nm ∧ ∀ o, m.ov = some o → ∃ i', i' < i ∧ N[i']? = some o
  al : ∀ i, i < j → ∃ m ∈ ms, N[i]? = some m.nm
def maE (p : Pn) (v1 : Slot) (pool N : List (List Nat)) (ms : List Ma) (v5 v6 v7 v8 : Slot) : Env := [.val (.obj p.i), v1, .val (.lst (pool.map .str)), .val (.lst (N.map .str)), .own (ms.map Ma.d), v5, v6, v7, v8]
def MaI (p : Pn) (v1 : Slot) (pool N : List (List Nat)) (j : Nat) (e : Env) : Prop := ∃ (ms : List Ma) (v5 v6 v7 v8 : Slot), MasJ N j ms ∧ e = maE p v1 pool N ms v5 v6 v7 v8
theorem ma_own (p : Pn) (k : Nat) {v1 v5 v6 v8 : Slot} {pool N : List (List Nat)} (hp : pool.Nodup) (hn : ∀ x ∈ pool, nameB x = true) (hl : pool.length ≤ 30) {ms : List Ma} :
    DrS p 31000 (evS (callK G T (k + 4)) G (.for_ (.name 8) (.seq (.v 2)) ownBody) (maE p v1 pool N ms v5 v6 (.own []) v8)) (fun e => ∃ (ps : List Pl) (v8 : Slot), ps.length ≤ 8 ∧ (∀ q ∈ ps, q.ok) ∧ (ps.map Pl.nm).Nodup ∧ e = maE p v1 pool N ms v5 v6 (.own (ps.map Pl.d)) v8) := by
  have hfor := dr_for (p := p) (tg := .name 8) (body := evSs (callK G T (k + 4)) G ownBody) (c := 1002) (I := OwI p v1 (.val (.lst (pool.map .str))) (.val (.lst (N.map .str))) (.own (ms.map Ma.d)) v5 v6 pool) (by decide) (pool.map .str) 0 (maE p v1 pool N ms v5 v6 (.own []) v8) ⟨[], v8, ⟨by decide, (fun _ h => by cases h), List.nodup_nil, (fun _ h => by cases h)⟩, rfl⟩ fun kk d env hk hI => by
    obtain ⟨ps, x8, e1, rfl⟩ := hI
    have hkn : kk < pool.length := by
      have := (List.getElem?_eq_some_iff.mp hk).1
      rwa [List.length_map] at this
    rw [Nat.zero_add] at e1 ⊢
    rw [List.getElem?_map, List.getElem?_eq_getElem hkn] at hk
    have hk := Option.some.inj hk
    subst hk
    exact ⟨_, rfl, own_body p k hp hn hkn e1⟩
  rw [List.length_map, Nat.zero_add] at hfor
  refine ((hfor.imp (c' := 31000) (by omega) fun e h => h).imp (by omega) fun e h => ?_).eq fun s => by simp [maE]
  obtain ⟨ps, x8, e1, rfl⟩ := h
  exact ⟨ps, x8, e1.len, e1.ok, e1.nod, rfl⟩
end Ms
namespace Ms
theorem ixl_2 (a b : D) (i : Int) (h0 : 0 ≤ i) (h1 : i < 2) : index (.lst [a, b]) (.int i) = some (if i = 0 then a else b) := by
  rcases (by omega : i = 0 ∨ i = 1) with rfl | rfl <;> rfl
theorem ma_over (p : Pn) (k : Nat) {v1 v7 v8 : Slot} {pool N : List (List Nat)} {ms : List Ma} {j : Nat} (hj : j < N.length) (hN : N.length ≤ 30) :
    DrS p 3 (evS (callK G T (k + 4)) G (.ifs (.and (.cmp .gt (.v 5) (.k (.int 0))) (.cmp .gt (.call 201 (.cons (.v 0) (.cons (.k (.int 4)) .nil))) (.k (.int 0)))) (.cons (.set 6 (.ix (.v 3) (.ix (.fl (.lst (.cons (.bin .sub (.v 5) (.k (.int 1))) (.cons (.call 201 (.cons (.v 0) (.cons (.v 5) .nil))) .nil)))) (.call 201 (.cons (.v 0) (.cons (.k (.int 2)) .nil))))))
 .nil) .nil) (maE p v1 pool N ms (.val (.int (j : Int))) (.val .non) v7 v8)) (fun e => ∃ o, (∀ x, o = some x → ∃ i, i < j ∧ N[i]? = some x) ∧ e = maE p v1 pool N ms (.val (.int (j : Int))) (.val (ovD o)) v7 v8) := by
  have h1 := dr_draw p (k + 3) (m := 4) (by decide) (by decide)
  have h3 := dr_draw p (k + 3) (m := 2) (by decide) (by decide)
  intro a q ha hq hb
  by_cases hj0 : j = 0
  · subst hj0
    refine ⟨_, a, q, ?_, by omega, by omega, hq, none, (fun _ h => by cases h), rfl⟩
    simp [maE, ovD]
  · have hjp : 0 < j := by omega
    obtain ⟨_, a1, q1, f1, l1, u1, k1, r, rfl, r0, r1⟩ := h1 a q ha hq (by omega)
    by_cases hr : 0 < r
    · obtain ⟨_, a2, q2, f2, l2, u2, k2, y, rfl, y0, y1⟩ := dr_draw p (k + 3) (m := (j : Int)) (by omega) (by omega) a1 q1 (by omega) k1 (by omega)
      obtain ⟨_, a3, q3, f3, l3, u3, k3, z, rfl, z0, z1⟩ := h3 a2 q2 (by omega) k2 (by omega)
      obtain ⟨X, hX, hXj⟩ : ∃ X : Nat, (if z = 0 then D.int ((j : Int) - 1) else D.int y) = D.int (X : Int) ∧ X < j := by
        by_cases hz : z = 0
        · exact ⟨j - 1, by rw [if_pos hz]; congr 1; omega, by omega⟩
        · exact ⟨y.toNat, by rw [if_neg hz]; congr 1; omega, by omega⟩
      have i1 := ixl_2 (.int ((j : Int) - 1)) (.int y) z z0 z1
      rw [hX] at i1
      have i2 := ix_nat (l := N.map .str) (i := X) (by rw [List.length_map]; omega)
      rw [List.getElem_map] at i2
      have hXN : X < N.length := by omega
      refine ⟨_, a3, q3, ?_, by omega, by omega, k3, some N[X], (fun x e => ⟨X, hXj, by rw [← e]; exact List.getElem?_eq_getElem hXN⟩), rfl⟩
      simp [maE, hjp, f1, hr, f2, f3, i1, i2, ovD, lim]
    · refine ⟨_, a1, q1, ?_, by omega, by omega, k1, none, (fun _ h => by cases h), rfl⟩
      simp [maE, ovD, f1, hr, hjp]
theorem ma_body (p : Pn) (k : Nat) {v1 v6 v7 v8 : Slot} {pool N : List (List Nat)} (hp : pool.Nodup) (hn : ∀ x ∈ pool, nameB x = true) (hl : pool.length ≤ 30) (hN : N.Nodup) (hNn : ∀ x ∈ N, nameB x = true) (hNl : N.length ≤ 30) {ms : List Ma} {j : Nat} (hj : j < N.length) (h : MasJ N j ms) :
    DrS p 31004 (evSs (callK G T (k + 4)) G maBody (maE p v1 pool N ms (.val (.int (j : Int))) v6 v7 v8)) (MaI p v1 pool N (j + 1)) := by
  refine DrS.imp (c := 0 + (3 + (0 + (31000 + 1)))) (P := MaI p v1 pool N (j + 1)) ?_ (by decide) fun _ h => h
  unfold maBody F__law_masters
  simp only [nxt, loopB]
  refine drS_seq (P := fun e => e = maE p v1 pool N ms (.val (.int (j : Int))) (.val .non) v7 v8) (drS_pure (fun s => by simp [maE]) rfl) (by decide) fun e he => ?_
  subst he
  refine drS_seq (ma_over p k hj hNl) (by decide) fun e he => ?_
  obtain ⟨o, ho, rfl⟩ := he
  refine drS_seq (P := fun e => e = maE p v1 pool N ms (.val (.int (j : Int))) (.val (ovD o)) (.own []) v8) (drS_pure (fun s => by simp [maE, lim]) rfl) (by decide) fun e he => ?_
  subst he
  refine drS_seq (ma_own p k hp hn hl) (by decide) fun e he => ?_
  obtain ⟨ps, x8, p1, p2, p3, rfl⟩ := he
  have h1 := dr_draw p (k + 3) (m := (ms.length : Int) + 1) (by omega) (by have := h.len; omega)
  intro a q ha hq hb
  obtain ⟨_, a1, q1, f1, l1, u1, k1, y, rfl, y0, y1⟩ := h1 a q ha hq (by omega)
  obtain ⟨Y, rfl⟩ : ∃ R : Nat, y = (R : Int) := ⟨y.toNat, by omega⟩
  have hY : Y ≤ ms.length := by omega
  have hl2 : ms.length < 1000000 := by have := h.len; omega
  have i2 := ix_nat (l := N.map .str) (i := j) (by rw [List.length_map]; omega)
  rw [List.getElem_map] at i2
  have hok : (⟨N[j], o, ps⟩ : Ma).ok := ⟨hNn _ (List.getElem_mem hj), (fun x e => by
    obtain ⟨i, hi, e2⟩ := ho x e
    exact hNn x (List.mem_of_getElem? e2)), p1, p2, p3⟩
  have hfr : N[j] ∉ ms.map Ma.nm := fun hm => by
    obtain ⟨m, hm, e⟩ := List.mem_map.mp hm
    obtain ⟨i, hi, e2, _⟩ := h.ix m hm
    rw [e, ← List.getElem?_eq_getElem hj] at e2
    have hiN : i < N.length := by omega
    rw [List.getElem?_eq_getElem hiN, List.getElem?_eq_getElem hj] at e2
    have := (List.getElem_inj hN).mp (Option.some.inj e2)
    omega
  have hmem : ∀ m, m ∈ ms.take Y ++ (⟨N[j], o, ps⟩ : Ma) :: ms.drop Y ↔ m = ⟨N[j], o, ps⟩ ∨ m ∈ ms := fun m => by
    rw [(wins_perm ms Y _).mem_iff, List.mem_cons]
  refine ⟨maE p v1 pool N (ms.take Y ++ (⟨N[j], o, ps⟩ : Ma) :: ms.drop Y) (.val (.int (j : Int))) (.val (ovD o)) (.val (.lst (ps.map Pl.d))) x8, a1, q1, ?_, by omega, by omega, k1, _, _, _, _, _, ⟨?_, ?_, nodup_ins Y h.nod hfr, ?_, ?_⟩, rfl⟩
  · simp only [maE, map_ins]
    simp [maE, frzE, f1, i2, insO, hY, hl2, Ma.d, lim]
  · rw [(wins_perm ms Y _).length_eq, List.length_cons, h.len]
  · intro m hm
    rcases (hmem m).mp hm with rfl | hm
    · exact hok
    · exact h.ok m hm
  · intro m hm
    rcases (hmem m).mp hm with rfl | hm
    · exact ⟨j, by omega, List.getElem?_eq_getElem hj, ho⟩
    · obtain ⟨i, hi, e⟩ := h.ix m hm
      exact ⟨i, by omega, e⟩
  · intro i hi
    by_cases hij : i < j
    · obtain ⟨m, hm, e⟩ := h.al i hij
      exact ⟨m, (hmem m).mpr (.inr hm), e⟩
    · obtain rfl : i = j := by omega
      exact ⟨_, (hmem _).mpr (.inl rfl), List.getElem?_eq_getElem hj⟩
end Ms

set_option Elab.async false
set_option linter.all false
set_option autoImplicit false
set_option maxRecDepth 100000
set_option maxHeartbeats 4000000
namespace Ms
theorem MasJ.gms {N : List (List Nat)} {ms : List Ma} (h : MasJ N N.length ms) (hN : N.Nodup) (h0 : 1 ≤ N.length) (h12 : N.length ≤ 12) : GMs ms := by
  have key : ∀ i x, N[i]? = some x → N.idxOf x = i := fun i x e => by
    obtain ⟨hi, rfl⟩ := List.getElem?_eq_some_iff.mp e
    exact hN.idxOf_getElem i hi
  refine ⟨by rw [h.len]; exact h0, by rw [h.len]; exact h12, h.ok, h.nod, fun x => N.idxOf x, fun m hm => ?_, fun m hm o ho => ?_⟩
  · obtain ⟨i, hi, e, _⟩ := h.ix m hm
    show N.idxOf m.nm < 1000
    rw [key i _ e]
    omega
  · obtain ⟨i, hi, e, h2⟩ := h.ix m hm
    obtain ⟨i', hi', e'⟩ := h2 o ho
    refine ⟨?_, ?_⟩
    · obtain ⟨m', hm', e2⟩ := h.al i' (by omega)
      rw [e'] at e2
      exact List.mem_map.mpr ⟨m', hm', (Option.some.inj e2).symm⟩
    · show N.idxOf o < N.idxOf m.nm
      rw [key _ _ e, key _ _ e']
      exact hi'
theorem masters_dr (p : Pn) (k : Nat) {pool : List (List Nat)} (hp : pool.Nodup) (hn : ∀ x ∈ pool, nameB x = true) (hl : pool.length ≤ 30) {most : Nat} (h0 : 0 < most) (h12 : most ≤ 12) :
    Dr p 400000 (callK G T (k + 5) n__law_masters [.obj p.i, .int (most : Int), .lst (pool.map .str)]) (fun d => ∃ ms, d = msD ms ∧ ms.length ≤ most ∧ GMs ms ∧ ∀ m ∈ ms, m.nm.length ≠ 6) := by
  refine Dr.eq (m := runB (callK G T (k + 4)) G 9 F__law_masters [.obj p.i, .int (most : Int), .lst (pool.map .str)]) ?_ fun s => by rw [call_eq T__law_masters rfl]
  refine drR_run ?_
  refine DrR.imp (c := 1001 + (0 + (31004 * 12 + 0))) (P := fun d => ∃ ms, d = msD ms ∧ ms.length ≤ most ∧ GMs ms ∧ ∀ m ∈ ms, m.nm.length ≠ 6) ?_ (by decide) fun _ h => h
  refine drR_set (P := fun d => ∃ N : List (List Nat), d = .lst (N.map .str) ∧ 1 ≤ N.length ∧ N.length ≤ most ∧ N.Nodup ∧ ∀ x ∈ N, nameB x = true ∧ x.length ≠ 6) ?_ (by decide) fun d hd => ?_
  · intro a q ha hq hb
    obtain ⟨_, a1, q1, f1, l1, u1, k1, r, rfl, r0, r1⟩ := dr_draw p (k + 3) (m := (most : Int)) (by omega) (by omega) a q ha hq (by omega)
    obtain ⟨M, hM⟩ : ∃ M : Nat, 1 + r = (M : Int) := ⟨(1 + r).toNat, by omega⟩
    obtain ⟨_, a2, q2, f2, l2, u2, k2, N, rfl, n1, n2, n3⟩ := names_dr p (k + 2) (m := M) (by omega) a1 q1 (by omega) k1 (by omega)
    exact ⟨_, a2, q2, by simp [startE, f1, hM, f2], by omega, by omega, k2, N, rfl, by omega, by omega, n2, n3⟩
  · obtain ⟨N, rfl, n1, n2, n3, n5⟩ := hd
    have n4 : ∀ x ∈ N, nameB x = true := fun x hx => (n5 x hx).1
    refine drR_seq (P := fun e => e = maE p (.val (.int (most : Int))) pool N [] .non .non .non .non) (drS_pure (fun s => by simp [startE, lim]; rfl) rfl) (by decide) fun e he => ?_
    subst he
    have hr : rng1 (.int (N.length : Int)) = some (rngL 0 N.length) := by
      have := rng1_of (i := (N.length : Int)) (by omega) (by omega)
      rwa [Int.toNat_natCast] at this
    refine drR_for (ds := rngL 0 N.length) (P := MaI p (.val (.int (most : Int))) pool N N.length) (fun s => by simp [maE, hr]) ?_ (by decide) fun e he => ?_
    · have hfor := dr_for (p := p) (tg := .name 5) (body := evSs (callK G T (k + 4)) G maBody) (c := 31004) (I := MaI p (.val (.int (most : Int))) pool N) (by decide) (rngL 0 N.length) 0 (maE p (.val (.int (most : Int))) pool N [] .non .non .non .non) ⟨[], _, _, _, _, ⟨rfl, (fun _ h => by cases h), List.nodup_nil, (fun _ h => by cases h), (fun i h => by omega)⟩, rfl⟩ fun kk d env hk hI => by
        obtain ⟨ms, v5, v6, v7, v8, e1, rfl⟩ := hI
        obtain ⟨hkn, hd⟩ := List.getElem?_eq_some_iff.mp hk
        rw [rng_len] at hkn
        have hd : d = .int (kk : Int) := by rw [← hd]; simp [rngL]
        subst hd
        rw [Nat.zero_add] at e1 ⊢
        exact ⟨_, rfl, ma_body p k hp hn hl n3 n4 (by omega) hkn e1⟩
      rw [rng_len, Nat.zero_add] at hfor
      exact hfor.imp (by omega) fun e h => h
    · obtain ⟨ms, v5, v6, v7, v8, e1, rfl⟩ := he
      refine DrR.eq (m := evSs (callK G T (k + 4)) G (.cons (.ret (.b1 .tuple (.v 4))) .nil) [.val (.obj p.i), .val (.int (most : Int)), .val (.lst (pool.map .str)), .val (.lst (N.map .str)), .val (.lst (ms.map Ma.d)), v5, v6, v7, v8]) ?_ fun s => by rw [evSs_frz_2]; rfl
      exact drR_ret (dr_pure (by decide) (fun s => by simp; rfl) ⟨ms, rfl, by rw [e1.len]; exact n2, e1.gms n3 n1 (by omega), fun m hm => by
        obtain ⟨i, _, e, _⟩ := e1.ix m hm
        exact (n5 _ (List.mem_of_getElem? e)).2⟩)
end Ms

set_option Elab.async false
set_option linter.all false
set_option autoImplicit false
set_option maxRecDepth 100000
set_option maxHeartbeats 4000000
namespace Ms
/-! ## A drawn slide: hands, fills, links -/
theorem asc_take {S : List (List Nat)} (h : AscT S) {j : Nat} (hj : j < S.length) {x : List Nat} (hx : x ∈ S.take j) : ltL x S[j] = true := by
  obtain ⟨i, hi, rfl⟩ := List.mem_take_iff_getElem.mp hx
  exact List.pairwise_iff_getElem.mp h i j (by omega) hj (by omega)
theorem take_suc {S : List (List Nat)} {j : Nat} {x : List Nat} (hx : x ∈ S.take j) : x ∈ S.take (j + 1) := by
  rw [List.take_add_one]
  exact List.mem_append.mpr (.inl hx)
theorem take_self {S : List (List Nat)} {j : Nat} (hj : j < S.length) : S[j] ∈ S.take (j + 1) := by
  rw [List.take_add_one, List.getElem?_eq_getElem hj]
  exact List.mem_append.mpr (.inr (by simp))
/-- a slide's names while it is drawn -/
def slE (p : Pn) (v1 v2 v3 v4 v5 v6 v7 v8 v9 v10 v11 : Slot) : Env := [.val (.obj p.i), v1, v2, v3, v4, v5, v6, v7, v8, v9, v10, v11, .non, .non]
structure HasJ (S : List (List Nat)) (j : Nat) (l : List Ha) : Prop where
  len : l.length ≤ 48
  ok : ∀ h ∈ l, h.ok
  asc : l.Pairwise Ha.lt
  sub : ∀ h ∈ l, h.pl ∈ S.take j
def haBody : Ss := loopB (nxt (nxt F__law_slide))
def HaI (p : Pn) (v1 v2 v3 v4 v5 v9 v10 v11 : Slot) (S : List (List Nat)) (j : Nat) (e : Env) : Prop := ∃ (l : List Ha) (v7 v8 : Slot), HasJ S j l ∧ e = slE p v1 v2 v3 v4 v5 (.own (l.map Ha.d)) v7 v8 v9 v10 v11
theorem ha_body (p : Pn) (k : Nat) {v1 v2 v3 v4 v5 v8 v9 v10 v11 : Slot} {S : List (List Nat)} (hS : AscT S) (hn : ∀ x ∈ S, nameB x = true) {j : Nat} (hj : j < S.length) {l : List Ha} (h : HasJ S j l) :
    DrS p 43 (evSs (callK G T (k + 2)) G haBody (slE p v1 v2 v3 v4 v5 (.own (l.map Ha.d)) (.val (.str S[j])) v8 v9 v10 v11)) (HaI p v1 v2 v3 v4 v5 v9 v10 v11 S (j + 1)) := by
  have h1 := dr_draw p (k + 1) (m := 3) (by decide) (by decide)
  have hs := dr_trs (p := p) (k := k) (e := slE p v1 v2 v3 v4 v5 (.own (l.map Ha.d)) (.val (.str S[j])) v8 v9 v10 v11) (i := 8) (elt := .tup (.cons (.v 7) (.cons (.v 8) (.cons (.call 205 (.cons (.v 0) (.cons (.v 8) .nil))) .nil)))) (fun i w => .tup [.str S[j], tr i, w]) (fun _ => rfl) fun i hi => by
    intro a q ha hq hb
    obtain ⟨w, a1, q1, e1, l1, u1, k1, hw⟩ := worth_dr p k hi a q ha hq hb
    exact ⟨.tup [.str S[j], tr i, w], a1, q1, by simp [slE, wipeE, e1, lim], l1, u1, k1, w, rfl, hw⟩
  unfold haBody F__law_slide
  simp only [nxt, loopB]
  have keep : HaI p v1 v2 v3 v4 v5 v9 v10 v11 S (j + 1) (slE p v1 v2 v3 v4 v5 (.own (l.map Ha.d)) (.val (.str S[j])) v8 v9 v10 v11) := ⟨l, _, _, ⟨h.len, h.ok, h.asc, fun q hq => take_suc (h.sub q hq)⟩, rfl⟩
  generalize F.lc (.tup (.cons (.v 7) (.cons (.v 8) (.cons (.call 205 (.cons (.v 0) (.cons (.v 8) .nil))) .nil)))) (.name 8) (.seq (.call 206 .nil)) (.some (.cmp .eq (.call 201 (.cons (.v 0) (.cons (.k (.int 3)) .nil))) (.k (.int 0)))) [8] = X at hs ⊢
  intro a q ha hq hb
  by_cases h42 : l.length < 42
  · have hi : (l.length : Int) < 42 := by omega
    obtain ⟨_, a1, q1, f1, l1, u1, k1, r, rfl, r0, r1⟩ := h1 a q ha hq (by omega)
    by_cases hr : r = 0
    · subst hr
      obtain ⟨ys, a2, q2, f2, l2, u2, k2, ps, o1, rfl, o2⟩ := hs a1 q1 (by omega) k1 (by omega)
      have h6 := settings_len o1 fun q hq => (o2 q hq).1
      have hmap : ∀ (ps : List (Nat × D)), ps.map (fun q => D.tup [.str S[j], tr q.1, q.2]) = (ps.map fun q => (⟨S[j], q.1, q.2⟩ : Ha)).map Ha.d := fun ps => by
        rw [List.map_map]; rfl
      refine ⟨slE p v1 v2 v3 v4 v5 (.own ((l ++ ps.map fun q => (⟨S[j], q.1, q.2⟩ : Ha)).map Ha.d)) (.val (.str S[j])) v8 v9 v10 v11, a2, q2, ?_, by omega, by omega, k2, _, _, _, ⟨?_, ?_, ?_, ?_⟩, rfl⟩
      · have hll : l.length + ps.length ≤ lim := le_lim (m := 48) (by omega) (by decide)
        unfold slE at f2 ⊢
        rw [hmap] at f2
        simp [f1, hi, f2, extO, hll]
      · rw [List.length_append, List.length_map]; omega
      · intro t ht
        rcases List.mem_append.mp ht with ht | ht
        · exact h.ok t ht
        · obtain ⟨q, hq, rfl⟩ := List.mem_map.mp ht
          exact ⟨hn _ (List.getElem_mem hj), (o2 q hq).1, (o2 q hq).2⟩
      · refine List.pairwise_append.mpr ⟨h.asc, ?_, fun t ht t' ht' => ?_⟩
        · rw [List.pairwise_map]
          rw [List.pairwise_map] at o1
          exact o1.imp fun hab => .inr ⟨rfl, hab⟩
        · obtain ⟨q, hq, rfl⟩ := List.mem_map.mp ht'
          exact .inl (asc_take hS hj (h.sub t ht))
      · intro t ht
        rcases List.mem_append.mp ht with ht | ht
        · exact take_suc (h.sub t ht)
        · obtain ⟨q, hq, rfl⟩ := List.mem_map.mp ht
          exact take_self hj
    · have hr1 : (r == 0) = false := by simpa using hr
      exact ⟨_, a1, q1, by simp [slE, f1, hi, hr1], by omega, by omega, k1, keep⟩
  · have hi : ¬ (l.length : Int) < 42 := by omega
    exact ⟨_, a, q, by simp [slE, hi], by omega, by omega, hq, keep⟩
end Ms

set_option Elab.async false
set_option linter.all false
set_option autoImplicit false
set_option maxRecDepth 100000
set_option maxHeartbeats 4000000
namespace Ms
structure LksJ (S names : List (List Nat)) (j : Nat) (l : List (List Nat × Tr)) : Prop where
  len : l.length ≤ j
  ok : ∀ q ∈ l, nameB q.1 = true ∧ q.2.ok ∧ q.2.inB names = true
  asc : Asc (l.map lkD)
  sub : ∀ q ∈ l, q.1 ∈ S.take j
def lkBody : Ss := match nxt (nxt (nxt F__law_slide)) with
  | .frz _ r => loopB (nxt (nxt r))
  | _ => .nil
def LkI (p : Pn) (v1 v2 v3 v5 v6 v8 v9 : Slot) (S names : List (List Nat)) (j : Nat) (e : Env) : Prop := ∃ (l : List (List Nat × Tr)) (v7 v11 : Slot), LksJ S names j l ∧ e = slE p v1 v2 v3 (.val (.lst (names.map .str))) v5 v6 v7 v8 v9 (.own ((l.map lkD).map keyV)) v11
theorem lk_body (p : Pn) (k : Nat) {v1 v2 v3 v5 v6 v8 v9 v11 : Slot} {S names : List (List Nat)} (hS : AscT S) (hn : ∀ x ∈ S, nameB x = true) (hN : ∀ x ∈ names, nameB x = true) (hN0 : 0 < names.length) (hN1 : names.length ≤ 1000) {j : Nat} (hj : j < S.length) (hj2 : j ≤ 1000) {l : List (List Nat × Tr)} (h : LksJ S names j l) :
    DrS p 7 (evSs (callK G T (k + 1)) G lkBody (slE p v1 v2 v3 (.val (.lst (names.map .str))) v5 v6 (.val (.str S[j])) v8 v9 (.own ((l.map lkD).map keyV)) v11)) (LkI p v1 v2 v3 v5 v6 v8 v9 S names (j + 1)) := by
  have h1 := dr_draw p k (m := 5) (by decide) (by decide)
  have h2 := dr_draw p k (m := (names.length : Int)) (by omega) (by omega)
  have h3 := dr_draw p k (m := 4) (by decide) (by decide)
  unfold lkBody F__law_slide
  simp only [nxt, loopB]
  intro a q ha hq hb
  obtain ⟨_, a1, q1, f1, l1, u1, k1, r, rfl, r0, r1⟩ := h1 a q ha hq (by omega)
  by_cases hr : r = 0
  · subst hr
    obtain ⟨_, a2, q2, f2, l2, u2, k2, y, rfl, y0, y1⟩ := h2 a1 q1 (by omega) k1 (by omega)
    obtain ⟨_, a3, q3, f3, l3, u3, k3, z, rfl, z0, z1⟩ := h3 a2 q2 (by omega) k2 (by omega)
    obtain ⟨Y, rfl⟩ : ∃ R : Nat, y = (R : Int) := ⟨y.toNat, by omega⟩
    have hY : Y < names.length := by omega
    have i2 := ix_nat (l := names.map .str) (i := Y) (by rw [List.length_map]; exact hY)
    rw [List.getElem_map] at i2
    have hmem := List.getElem_mem hY
    obtain ⟨t, ht, o1, o2⟩ : ∃ t : Tr, index (.lst [.tup [.str [115, 108, 105, 100, 101], .str names[Y]], .tup [.str [102, 105, 114, 115, 116]], .tup [.str [108, 97, 115, 116]], .tup [.str [114, 101, 116, 117, 114, 110]]]) (.int z) = some t.d ∧ t.ok ∧ t.inB names = true := by
      rcases (by omega : z = 0 ∨ z = 1 ∨ z = 2 ∨ z = 3) with rfl | rfl | rfl | rfl
      · exact ⟨.to names[Y], rfl, hN _ hmem, by simp [Tr.inB]⟩
      · exact ⟨.first, rfl, trivial, rfl⟩
      · exact ⟨.last, rfl, trivial, rfl⟩
      · exact ⟨.ret, rfl, trivial, rfl⟩
    generalize hL : D.lst [.tup [.str [115, 108, 105, 100, 101], .str names[Y]], .tup [.str [102, 105, 114, 115, 116]], .tup [.str [108, 97, 115, 116]], .tup [.str [114, 101, 116, 117, 114, 110]]] = L at ht
    have hd : ∀ s, der s L = L := fun s => by rw [← hL]; rfl
    have hll : l.length < lim := lt_lim (m := 1000) (by have := h.len; omega) (by decide)
    refine ⟨slE p v1 v2 v3 (.val (.lst (names.map .str))) v5 v6 (.val (.str S[j])) v8 v9 (.own (((l ++ [(S[j], t)]).map lkD).map keyV)) (.val L), a3, q3, ?_, by omega, by omega, k3, _, _, _, ⟨?_, ?_, ?_, ?_⟩, rfl⟩
    · simp [slE, f1, f2, i2, lim]
      rw [hL]
      have hl2 : l.length < 16777216 := hll
      simp [f3, hd, ht, hl2, lkD, keyV]
    · rw [List.length_append]; have := h.len; simp; omega
    · intro t' ht'
      rcases List.mem_append.mp ht' with ht' | ht'
      · exact h.ok t' ht'
      · rw [List.mem_singleton.mp ht']
        exact ⟨hn _ (List.getElem_mem hj), o1, o2⟩
    · rw [List.map_append]
      refine List.pairwise_append.mpr ⟨h.asc, List.pairwise_singleton _ _, fun t1 h1 t2 h2 => ?_⟩
      obtain ⟨q, hq, rfl⟩ := List.mem_map.mp h1
      rw [List.map_singleton, List.mem_singleton] at h2
      rw [h2]
      exact asc_take hS hj (h.sub q hq)
    · intro t' ht'
      rcases List.mem_append.mp ht' with ht' | ht'
      · exact take_suc (h.sub t' ht')
      · rw [List.mem_singleton.mp ht']
        exact take_self hj
  · have hr1 : (r == 0) = false := by simpa using hr
    refine ⟨_, a1, q1, ?_, by omega, by omega, k1, l, .val (.str S[j]), v11, ⟨by have := h.len; omega, h.ok, h.asc, fun t ht => take_suc (h.sub t ht)⟩, rfl⟩
    simp [slE, f1, hr1]
/-- fills -/
theorem fills_dr (p : Pn) (k : Nat) {e : Env} {pool : List (List Nat)} (h3 : e.get 3 = some (.lst (pool.map .str))) (h0 : ∀ x, Env.get ((wipeE e [7]).set 7 (.val x)) 0 = some (.obj p.i)) (h7 : ∀ x, Env.get ((wipeE e [7]).set 7 (.val x)) 7 = some x) (hp : pool.Nodup) (hn : ∀ x ∈ pool, nameB x = true) (hl : pool.length ≤ 30) :
    Dr p 10000 (evE (callK G T (k + 4)) G (.sl (.b1 .tuple (.fl (.lc (.tup (.cons (.v 7) (.cons (.call 204 (.cons (.v 0) .nil)) .nil))) (.name 7) (.seq (.fl (.srt (.v 3)))) (.some (.cmp .eq (.call 201 (.cons (.v 0) (.cons (.k (.int 3)) .nil))) (.k (.int 0)))) [7]))) .none (.some (.k (.int 12)))) e) (fun d => ∃ l : List (List Nat × D), d = keysD l ∧ l.length ≤ 12 ∧ (∀ q ∈ l, nameB q.1 = true ∧ GLines q.2) ∧ Asc l) := by
  have hsl : (sortC pool).length = pool.length := by
    have hi : ∀ (x : List Nat) (l : List (List Nat)), (insS x l).length = l.length + 1 := fun x l => by
      induction l with
      | nil => rfl
      | cons y r ih => rw [insS]; split <;> simp [ih]
    have : ∀ l : List (List Nat), (sortC l).length = l.length := fun l => by
      induction l with
      | nil => rfl
      | cons y r ih => show (insS y (sortC r)).length = _; rw [hi, ih]; rfl
    exact this pool
  have hd := dr_lc (p := p) (tg := .name 7) (env := wipeE e [7]) (cc := evC (callK G T (k + 4)) G (.some (.cmp .eq (.call 201 (.cons (.v 0) (.cons (.k (.int 3)) .nil))) (.k (.int 0))))) (elt := evE (callK G T (k + 4)) G (.tup (.cons (.v 7) (.cons (.call 204 (.cons (.v 0) .nil)) .nil)))) (c1 := 1) (c2 := 300) (R := fun x y => ∃ w, y = .tup [x, w] ∧ GLines w) (by omega) (by omega) ((sortC pool).map .str) fun x hx => by
    refine ⟨_, rfl, dr_testR (dr_test (h0 _) (by decide) (by decide)), ?_⟩
    intro a q ha hq hb
    obtain ⟨w, a1, q1, e1, l1, u1, k1, hw⟩ := lines_dr p (k + 1) a q ha hq (by omega)
    refine ⟨.tup [x, w], a1, q1, ?_, l1, by omega, k1, w, rfl, hw⟩
    rw [evE_tup_25, evEs_cons_1, ev_v (h7 x), Rs.bind_ok, evEs_cons_1, ev_call1 (ev_v (h0 x)), e1, Rs.bind_ok, evEs_nil_0]
    rfl
  intro a q ha hq hb
  obtain ⟨l, a1, q1, e1, l1, u1, k1, ds', sub, al⟩ := hd a q ha hq (by rw [List.length_map, hsl]; omega)
  rw [List.length_map, hsl] at u1
  obtain ⟨L, hL, rfl⟩ := List.sublist_map_iff.mp sub
  obtain ⟨fs, rfl, g1, g2⟩ : ∃ fs : List (List Nat × D), l = fs.map keyV ∧ fs.map Prod.fst = L ∧ ∀ q ∈ fs, GLines q.2 := by
    clear sub hL e1
    generalize hX : L.map D.str = X at al
    induction al generalizing L with
    | nil =>
      have : L = [] := List.map_eq_nil_iff.mp hX
      exact ⟨[], rfl, by rw [this]; rfl, fun _ h => by cases h⟩
    | cons h r ih =>
      cases L with
      | nil => cases hX
      | cons z L =>
        simp only [List.map_cons, List.cons.injEq] at hX
        obtain ⟨rfl, hX⟩ := hX
        obtain ⟨w, rfl, hw⟩ := h
        obtain ⟨fs, rfl, g1, g2⟩ := ih L hX
        exact ⟨(z, w) :: fs, rfl, by rw [List.map_cons, g1], fun q hq => (List.mem_cons.mp hq).elim (fun e => e ▸ hw) (g2 q)⟩
  have hasc : Asc fs := by
    have h1 := (sortC_asc hp).sublist hL
    rw [← g1, List.pairwise_map] at h1
    exact h1
  refine ⟨keysD (fs.take 12), a1, q1, ?_, l1, by omega, k1, _, rfl, by rw [List.length_take]; omega, fun q hq => ?_, hasc.sublist (List.take_sublist _ _)⟩
  · have hll : ((sortC pool).map D.str).length ≤ lim := by rw [List.length_map, hsl]; exact le_lim hl (by decide)
    have e2 : evIt (callK G T (k + 4)) G (.seq (.fl (.srt (.v 3)))) e (p.st a q) = .ok ((sortC pool).map .str) (p.st a q) := by
      have h64 : pool.length < 64 := by omega
      have : sortV (.lst (pool.map .str)) = some ((sortC pool).map .str) := by simp [sortV, strs_map, h64]
      rw [evIt_seq_0, evE_fl_26, evF_srt_6, ev_v h3, Rs.bind_ok, der_lst', this]
      rfl
    have e3 : sliceV (.tup (fs.map keyV)) none (some 12) = some (.tup ((fs.take 12).map keyV)) := by
      have h12 : ¬ ((12 : Int) < 0) := by decide
      have h13 : (12 : Int).toNat = 12 := rfl
      simp only [sliceV, cut, bnd, h12, if_false, h13, List.drop_zero, Nat.sub_zero, List.map_take]
      rcases Nat.le_total 12 (fs.map keyV).length with h | h
      · rw [Nat.min_eq_left h]
      · rw [Nat.min_eq_right h, List.take_of_length_le (Nat.le_refl _), List.take_of_length_le h]
    rw [evE_sl_24, evE_b1_16, evE_fl_26, evF_lc_3, e2, Rs.bind_ok]
    simp only [decide_eq_true hll]
    rw [e1]
    simp [noEx, e3, keysD]
  · have hq := List.mem_of_mem_take hq
    refine ⟨hn _ (sortC_mem (hL.subset ?_)), g2 q hq⟩
    rw [← g1]
    exact List.mem_map_of_mem hq
end Ms

set_option Elab.async false
set_option linter.all false
set_option autoImplicit false
set_option maxRecDepth 100000
set_option maxHeartbeats 4000000
namespace Ms
/-! ## A drawn slide -/
theorem drR_frz {p : Pn} {C : Calls} {c : Int} {i : Nat} {r : Ss} {e e' : Env} {Q : D → Prop} (h : frzE i e = some e') (hr : DrR p c (evSs C G r e') Q) : DrR p c (evSs C G (.frz i r) e) Q :=
  DrR.eq hr fun s => by rw [evSs_frz_2, h]
theorem drS_frz {p : Pn} {C : Calls} {c : Int} {i : Nat} {r : Ss} {e e' : Env} {Q : Env → Prop} (h : frzE i e = some e') (hr : DrS p c (evSs C G r e') Q) : DrS p c (evSs C G (.frz i r) e) Q :=
  DrS.eq hr fun s => by rw [evSs_frz_2, h]
theorem sortC_len : ∀ (l : List (List Nat)), (sortC l).length = l.length
  | [] => rfl
  | y :: r => by
    have hi : ∀ (x : List Nat) (l : List (List Nat)), (insS x l).length = l.length + 1 := fun x l => by
      induction l with
      | nil => rfl
      | cons y r ih => rw [insS]; split <;> simp [ih]
    show (insS y (sortC r)).length = _
    rw [hi, sortC_len r]; rfl
theorem sort_it {C : Calls} {e : Env} {s : Sto} {i : Nat} {pool : List (List Nat)} (h : e.get i = some (.lst (pool.map .str))) (hl : pool.length ≤ 30) : evIt C G (.seq (.fl (.srt (.v i)))) e s = .ok ((sortC pool).map .str) s := by
  have h64 : pool.length < 64 := by omega
  have : sortV (.lst (pool.map .str)) = some ((sortC pool).map .str) := by simp [sortV, strs_map, h64]
  rw [evIt_seq_0, evE_fl_26, evF_srt_6, ev_v h, Rs.bind_ok, der_lst', this]
  rfl
theorem slice_tup (l : List D) (n : Nat) : sliceV (.tup l) none (some (n : Int)) = some (.tup (l.take n)) := by
  have h1 : ¬ ((n : Int) < 0) := by omega
  simp only [sliceV, cut, bnd, h1, if_false, Int.toNat_natCast, List.drop_zero, Nat.sub_zero]
  rcases Nat.le_total n l.length with h | h
  · rw [Nat.min_eq_left h]
  · rw [Nat.min_eq_right h, List.take_of_length_le (Nat.le_refl _), List.take_of_length_le h]
theorem slice_lst (l : List D) (n : Nat) : sliceL (.lst l) none (some (n : Int)) = some (l.take n) := by
  have h1 : ¬ ((n : Int) < 0) := by omega
  simp only [sliceL, cut, bnd, h1, if_false, Int.toNat_natCast, List.drop_zero, Nat.sub_zero]
  rcases Nat.le_total n l.length with h | h
  · rw [Nat.min_eq_left h]
  · rw [Nat.min_eq_right h, List.take_of_length_le (Nat.le_refl _), List.take_of_length_le h]
theorem dr_draw2 (p : Pn) (k : Nat) {m : Int} (hm : 0 < m) (hm2 : m < 1073741824) : Dr p 1 (callK G T (k + 1) 201 [.obj p.i, .int m]) (fun d => ∃ r : Nat, d = .int (r : Int) ∧ (r : Int) < m) := (dr_draw p k hm hm2).imp (by omega) fun d h => by
  obtain ⟨r, rfl, r0, r1⟩ := h
  exact ⟨r.toNat, by congr 1; omega, by omega⟩
def SlP (ms : List Ma) (name : List Nat) (names : List (List Nat)) (d : D) : Prop := ∃ t : Sl, d = t.d ∧ t.ok ∧ t.nm = name ∧ t.ms ∈ ms.map Ma.nm ∧ ∀ q ∈ t.links, q.2.inB names = true
theorem slide_dr (p : Pn) (k : Nat) {ms : List Ma} (hms : GMs ms) {pool names : List (List Nat)} {name : List Nat} (hp : pool.Nodup) (hn : ∀ x ∈ pool, nameB x = true) (hp0 : 0 < pool.length) (hl : pool.length ≤ 30) (hN : ∀ x ∈ names, nameB x = true) (hN0 : 0 < names.length) (hN1 : names.length ≤ 1000) (hname : nameB name = true) :
    Dr p 20000 (callK G T (k + 5) n__law_slide [.obj p.i, .str name, msD ms, .lst (pool.map .str), .lst (names.map .str)]) (SlP ms name names) := by
  refine Dr.eq (m := runB (callK G T (k + 4)) G 14 F__law_slide [.obj p.i, .str name, msD ms, .lst (pool.map .str), .lst (names.map .str)]) ?_ fun s => by rw [call_eq T__law_slide rfl]
  refine drR_run ?_
  refine DrR.imp (c := 1 + (0 + (43 * 30 + (10000 + (0 + (7 * 30 + (4 * 20 + (1 + 0) + (502 + (1 + 0))))))))) (P := SlP ms name names) ?_ (by decide) fun _ h => h
  have hS : AscT (sortC pool) := sortC_asc hp
  have hSn : ∀ x ∈ sortC pool, nameB x = true := fun x hx => hn x (sortC_mem hx)
  have hSl : (sortC pool).length ≤ 30 := by rw [sortC_len]; exact hl
  have w20 : (0 : Int) ≤ 20 := by decide
  refine drR_set (P := fun d => ∃ m ∈ ms, d = .str m.nm) ?_ (by decide) fun d hd => ?_
  · intro a q ha hq hb
    have hlo := hms.lo
    have hhi := hms.hi
    obtain ⟨_, a1, q1, f1, l1, u1, k1, r, rfl, r1⟩ := dr_draw2 p (k + 3) (m := (ms.length : Int)) (by omega) (by omega) a q ha hq (by omega)
    have hr : r < ms.length := by omega
    have i1 := ixt_nat (l := ms.map Ma.d) (i := r) (by rw [List.length_map]; exact hr)
    rw [List.getElem_map] at i1
    refine ⟨.str ms[r].nm, a1, q1, ?_, l1, u1, k1, _, List.getElem_mem hr, rfl⟩
    simp [startE, msD, f1, i1, Ma.d]
  obtain ⟨m, hm, rfl⟩ := hd
  refine drR_seq (P := fun e => e = slE p (.val (.str name)) (.val (msD ms)) (.val (.lst (pool.map .str))) (.val (.lst (names.map .str))) (.val (.str m.nm)) (.own (([] : List Ha).map Ha.d)) .non .non .non .non .non) (drS_pure (fun s => by simp [startE, lim]; rfl) rfl) (by decide) fun e he => ?_
  subst he
  refine drR_for (ds := (sortC pool).map .str) (P := HaI p (.val (.str name)) (.val (msD ms)) (.val (.lst (pool.map .str))) (.val (.lst (names.map .str))) (.val (.str m.nm)) .non .non .non (sortC pool) (sortC pool).length) (fun s => sort_it rfl hl) ?_ (by decide) fun e he => ?_
  · have hfor := dr_for (p := p) (tg := .name 7) (body := evSs (callK G T (k + 4)) G haBody) (c := 43) (I := HaI p (.val (.str name)) (.val (msD ms)) (.val (.lst (pool.map .str))) (.val (.lst (names.map .str))) (.val (.str m.nm)) .non .non .non (sortC pool)) (by decide) ((sortC pool).map .str) 0 (slE p (.val (.str name)) (.val (msD ms)) (.val (.lst (pool.map .str))) (.val (.lst (names.map .str))) (.val (.str m.nm)) (.own (([] : List Ha).map Ha.d)) .non .non .non .non .non) ⟨[], _, _, ⟨by decide, (fun _ h => by cases h), List.Pairwise.nil, (fun _ h => by cases h)⟩, rfl⟩ fun kk d env hk hI => by
      obtain ⟨l, v7, v8, e1, rfl⟩ := hI
      rw [List.getElem?_map] at hk
      obtain ⟨x, hx, rfl⟩ := Option.map_eq_some_iff.mp hk
      obtain ⟨hkn, rfl⟩ := List.getElem?_eq_some_iff.mp hx
      rw [Nat.zero_add] at e1 ⊢
      exact ⟨_, rfl, ha_body p (k + 2) hS hSn hkn e1⟩
    rw [List.length_map, Nat.zero_add] at hfor
    exact hfor.imp (by omega) fun e h => h
  obtain ⟨hs, v7, v8, g1, rfl⟩ := he
  refine drR_frz (e' := slE p (.val (.str name)) (.val (msD ms)) (.val (.lst (pool.map .str))) (.val (.lst (names.map .str))) (.val (.str m.nm)) (.val (.lst (hs.map Ha.d))) v7 v8 .non .non .non) rfl ?_
  refine drR_set (fills_dr p k (pool := pool) rfl (fun _ => rfl) (fun _ => rfl) hp hn hl) (by decide) fun d hd => ?_
  obtain ⟨fs, rfl, g2, g3, g4⟩ := hd
  refine drR_seq (P := fun e => e = slE p (.val (.str name)) (.val (msD ms)) (.val (.lst (pool.map .str))) (.val (.lst (names.map .str))) (.val (.str m.nm)) (.val (.lst (hs.map Ha.d))) v7 v8 (.val (keysD fs)) (.own ((([] : List (List Nat × Tr)).map lkD).map keyV)) .non) (drS_pure (fun s => by simp [slE, lim]) rfl) (by decide) fun e he => ?_
  subst he
  refine drR_for (ds := (sortC pool).map .str) (P := LkI p (.val (.str name)) (.val (msD ms)) (.val (.lst (pool.map .str))) (.val (.str m.nm)) (.val (.lst (hs.map Ha.d))) v8 (.val (keysD fs)) (sortC pool) names (sortC pool).length) (fun s => sort_it rfl hl) ?_ (by decide) fun e he => ?_
  · have hfor := dr_for (p := p) (tg := .name 7) (body := evSs (callK G T (k + 4)) G lkBody) (c := 7) (I := LkI p (.val (.str name)) (.val (msD ms)) (.val (.lst (pool.map .str))) (.val (.str m.nm)) (.val (.lst (hs.map Ha.d))) v8 (.val (keysD fs)) (sortC pool) names) (by decide) ((sortC pool).map .str) 0 (slE p (.val (.str name)) (.val (msD ms)) (.val (.lst (pool.map .str))) (.val (.lst (names.map .str))) (.val (.str m.nm)) (.val (.lst (hs.map Ha.d))) v7 v8 (.val (keysD fs)) (.own ((([] : List (List Nat × Tr)).map lkD).map keyV)) .non) ⟨[], _, _, ⟨by decide, (fun _ h => by cases h), List.Pairwise.nil, (fun _ h => by cases h)⟩, rfl⟩ fun kk d env hk hI => by
      obtain ⟨l, v7, v11, e1, rfl⟩ := hI
      rw [List.getElem?_map] at hk
      obtain ⟨x, hx, rfl⟩ := Option.map_eq_some_iff.mp hk
      obtain ⟨hkn, rfl⟩ := List.getElem?_eq_some_iff.mp hx
      rw [Nat.zero_add] at e1 ⊢
      exact ⟨_, rfl, lk_body p (k + 3) hS hSn hN hN0 hN1 hkn (by omega) e1⟩
    rw [List.length_map, Nat.zero_add] at hfor
    exact hfor.imp (by omega) fun e h => h
  obtain ⟨ls, v7', v11, g5, rfl⟩ := he
  refine drR_frz (e' := slE p (.val (.str name)) (.val (msD ms)) (.val (.lst (pool.map .str))) (.val (.lst (names.map .str))) (.val (.str m.nm)) (.val (.lst (hs.map Ha.d))) v7' v8 (.val (keysD fs)) (.val (.lst ((ls.map lkD).map keyV))) v11) rfl ?_
  refine drR_set (P := GWrit 200) ?_ (by decide) fun d hd => ?_
  · refine dr_pickm (n := 4) (c := ((4 : Nat) : Int) * 20) rfl rfl (by decide) (by decide) (by decide) (dr_cons w20 (dr_k w20 ⟨_, rfl, by decide, fun c hc => by cases hc⟩) (dr_cons w20 (dr_k w20 ⟨_, rfl, by decide, ?_⟩) (dr_cons w20 ?_ (dr_cons w20 (dr_pure w20 (d := .str (List.replicate 200 110)) (fun s => by kernel_rfl) ⟨_, rfl, by simp, ?_⟩) dr_nil))))
    · have : (([115, 97, 121, 32, 105, 116] : List Nat).all fun c => signs.contains c) = true := by kernel_rfl
      exact fun c hc => List.contains_iff_mem.mp (List.all_eq_true.mp this c hc)
    · exact ((line_dr p (k + 2)).eq fun s => ev_call1 (ev_v rfl)).imp (by decide) fun d hd => by
        obtain ⟨x, rfl, h1, h2⟩ := hd
        exact ⟨x, rfl, by omega, h2⟩
    · intro c hc
      rw [List.eq_of_mem_replicate hc]
      exact List.contains_iff_mem.mp (by kernel_rfl)
  obtain ⟨nt, rfl, g6, g7⟩ := hd
  refine drR_set (P := fun d => ∃ l : List St, d = stepsD l ∧ l.length ≤ 24 ∧ ∀ t ∈ l, t.ok) ?_ (by decide) fun d hd => ?_
  · intro a q ha hq hb
    obtain ⟨_, a1, q1, f1, l1, u1, k1, r, rfl, r1⟩ := dr_draw2 p (k + 3) (m := 2) (by decide) (by decide) a q ha hq (by omega)
    obtain ⟨mo, hmo, hm24⟩ : ∃ mo : Nat, index (.lst [.int 4, .int 12]) (.int (r : Int)) = some (.int (mo : Int)) ∧ mo ≤ 24 := by
      rcases (by omega : r = 0 ∨ r = 1) with rfl | rfl
      · exact ⟨4, rfl, by decide⟩
      · exact ⟨12, rfl, by decide⟩
    obtain ⟨_, a2, q2, f2, l2, u2, k2, st, rfl, t1, t2⟩ := steps_dr p (k + 2) (pool := pool) hn hp0 (by omega) hm24 a1 q1 (by omega) k1 (by omega)
    refine ⟨stepsD st, a2, q2, ?_, by omega, by omega, k2, st, rfl, by omega, t2⟩
    simp [slE, lim, f1, hmo, f2]
  obtain ⟨st, rfl, g8, g9⟩ := hd
  refine drR_ret ?_
  intro a q ha hq hb
  obtain ⟨_, a1, q1, f1, l1, u1, k1, r, rfl, r1⟩ := dr_draw2 p (k + 3) (m := 4) (by decide) (by decide) a q ha hq (by omega)
  refine ⟨Sl.d ⟨name, m.nm, hs, fs, st, ls.take 12, cond ((r : Int) == 0) 1 0, nt⟩, a1, q1, ?_, l1, u1, k1, _, rfl, ?_, rfl, List.mem_map_of_mem hm, ?_⟩
  · have e12 := slice_lst (ls.map (keyV ∘ lkD)) 12
    have e13 : (((12 : Nat) : Int)) = 12 := rfl
    rw [e13] at e12
    simp [slE, f1, e12, lim, Sl.d, handsD, linksD]
  · refine ⟨hname, (hms.ok m hm).nm, g1.len, g1.ok, g1.asc, g2, g3, g4, g8, g9, by simp only [List.length_take]; omega, fun q hq => ?_, ?_, ?_, ⟨nt, rfl, g6, g7⟩⟩
    · have := g5.ok q (List.mem_of_mem_take hq)
      exact ⟨this.1, this.2.1⟩
    · show Asc ((ls.take 12).map lkD)
      rw [List.map_take]
      exact g5.asc.sublist (List.take_sublist _ _)
    · show cond ((r : Int) == 0) (1 : Int) 0 = 0 ∨ cond ((r : Int) == 0) (1 : Int) 0 = 1
      cases ((r : Int) == 0)
      · exact .inl rfl
      · exact .inr rfl
  · exact fun q hq => (g5.ok q (List.mem_of_mem_take hq)).2.2
end Ms

set_option Elab.async false
set_option linter.all false
set_option autoImplicit false
set_option maxRecDepth 100000
set_option maxHeartbeats 4000000
namespace Ms
/-! ## A drawn deck -/
theorem all2_sl {ms : List Ma} {names : List (List Nat)} : ∀ {N : List (List Nat)} {l : List D}, All2 (fun (x y : D) => ∃ n : List Nat, x = D.str n ∧ SlP ms n names y) (N.map D.str) l → ∃ sl : List Sl, l = sl.map Sl.d ∧ sl.map Sl.nm = N ∧ ∀ t ∈ sl, t.ok ∧ t.ms ∈ ms.map Ma.nm ∧ ∀ q ∈ t.links, q.2.inB names = true
  | [], _, .nil => ⟨[], rfl, rfl, fun _ h => by cases h⟩
  | n :: N, _, .cons h r => by
    obtain ⟨n', e, t, rfl, h1, h2, h3, h4⟩ := h
    obtain rfl := D.str.inj e
    obtain ⟨sl, rfl, e2, e3⟩ := all2_sl r
    exact ⟨t :: sl, rfl, by rw [List.map_cons, e2, h2], fun q hq => (List.mem_cons.mp hq).elim (fun e => e ▸ ⟨h1, h3, h4⟩) (e3 q)⟩
theorem dr_lc_all {p : Pn} {tg : Tg} {env : Env} {cc : Env → Sto → Rs Bool} {elt : Env → Sto → Rs D} {c2 : Int} {R : D → D → Prop} (h2 : 0 ≤ c2) : ∀ (ds : List D), (∀ d ∈ ds, ∃ env1, bindTg tg d env = some env1 ∧ (∀ s, cc env1 s = .ok true s) ∧ Dr p c2 (elt env1) (R d)) →
    Dr p (ds.length * c2) (lcGo tg env cc elt ds) (fun l => All2 R ds l)
  | [], _ => fun a q ha hq _ => ⟨[], a, q, rfl, by omega, by simp, hq, .nil⟩
  | d :: ds, h => fun a q ha hq hb => by
    obtain ⟨env1, eb, hc, he⟩ := h d List.mem_cons_self
    have e0 : (((d :: ds).length : Nat) : Int) * c2 = (ds.length : Int) * c2 + c2 := by
      rw [List.length_cons, Int.natCast_add, Int.add_mul]; simp
    rw [e0] at hb ⊢
    have hp : 0 ≤ (ds.length : Int) * c2 := Int.mul_nonneg (by omega) h2
    obtain ⟨x, a1, q1, f1, l1, u1, k1, r1⟩ := he a q ha hq (by omega)
    obtain ⟨l, a2, q2, f2, l2, u2, k2, r2⟩ := dr_lc_all h2 ds (fun y hy => h y (List.mem_cons_of_mem _ hy)) a1 q1 (by omega) k1 (by omega)
    refine ⟨x :: l, a2, q2, ?_, by omega, by omega, k2, .cons r1 r2⟩
    simp only [lcGo, eb, Rs.of_some, Rs.bind_ok, hc, f1, f2]
def DeckP (m n : Nat) (d : D) : Prop := ∃ ms sl, d = dkD ms sl ∧ GDeck ms sl ∧ ms.length ≤ m ∧ sl.length ≤ n ∧ (∀ m ∈ ms, m.nm.length ≠ 6) ∧ ∀ t ∈ sl, t.nm.length ≠ 6
theorem sub_eq {α : Type} : ∀ {l l' : List α}, l.Sublist l' → l.length = l'.length → l = l' := fun h e => h.eq_of_length e
theorem deck_dr (p : Pn) (k : Nat) {m n : Nat} (hm0 : 0 < m) (hm : m ≤ 12) (hn : n ≤ 40) : Dr p 2000000 (callK G T (k + 6) n__law_deck [.obj p.i, .int (m : Int), .int (n : Int)]) (DeckP m n) := by
  refine Dr.eq (m := runB (callK G T (k + 5)) G 7 F__law_deck [.obj p.i, .int (m : Int), .int (n : Int)]) ?_ fun s => by rw [call_eq T__law_deck rfl]
  refine drR_run ?_
  refine DrR.imp (c := 1001 + (400000 + (1001 + 40 * 20000))) (P := DeckP m n) ?_ (by decide) fun _ h => h
  refine drR_set (P := fun d => ∃ N : List (List Nat), d = .lst (N.map .str) ∧ 1 ≤ N.length ∧ N.length ≤ 5 ∧ N.Nodup ∧ ∀ x ∈ N, nameB x = true ∧ x.length ≠ 6) ?_ (by decide) fun d hd => ?_
  · intro a q ha hq hb
    obtain ⟨_, a1, q1, f1, l1, u1, k1, r, rfl, r1⟩ := dr_draw2 p (k + 4) (m := 5) (by omega) (by omega) a q ha hq (by omega)
    have hM : (1 : Int) + (r : Int) = ((1 + r : Nat) : Int) := by omega
    obtain ⟨_, a2, q2, f2, l2, u2, k2, N, rfl, n1, n2, n3⟩ := names_dr p (k + 3) (m := 1 + r) (by omega) a1 q1 (by omega) k1 (by omega)
    exact ⟨_, a2, q2, by simp [startE, f1, hM, f2, -Int.natCast_add], by omega, by omega, k2, N, rfl, by omega, by omega, n2, n3⟩
  obtain ⟨pool, rfl, p0, p5, pn, pk'⟩ := hd
  have pk : ∀ x ∈ pool, nameB x = true := fun x hx => (pk' x hx).1
  refine drR_set (P := fun d => ∃ ms, d = msD ms ∧ ms.length ≤ m ∧ GMs ms ∧ ∀ m ∈ ms, m.nm.length ≠ 6) ?_ (by decide) fun d hd => ?_
  · exact (masters_dr p k pn pk (by omega) hm0 hm).eq fun s => by simp [startE]
  obtain ⟨ms, rfl, hml, hms, hm6⟩ := hd
  refine drR_set (P := fun d => ∃ N : List (List Nat), d = .lst (N.map .str) ∧ N.length ≤ n ∧ N.Nodup ∧ ∀ x ∈ N, nameB x = true ∧ x.length ≠ 6) ?_ (by decide) fun d hd => ?_
  · intro a q ha hq hb
    obtain ⟨_, a1, q1, f1, l1, u1, k1, r, rfl, r1⟩ := dr_draw2 p (k + 4) (m := (n : Int) + 1) (by omega) (by omega) a q ha hq (by omega)
    obtain ⟨_, a2, q2, f2, l2, u2, k2, N, rfl, n1, n2, n3⟩ := names_dr p (k + 3) (m := r) (by omega) a1 q1 (by omega) k1 (by omega)
    exact ⟨_, a2, q2, by simp [startE, f1, f2], by omega, by omega, k2, N, rfl, by omega, n2, n3⟩
  obtain ⟨N, rfl, hNl, hNn, hNk'⟩ := hd
  have hNk : ∀ x ∈ N, nameB x = true := fun x hx => (hNk' x hx).1
  refine drR_ret ?_
  intro a q ha hq hb
  have hd := dr_lc_all (p := p) (tg := .name 6) (env := [.val (.obj p.i), .val (.int (m : Int)), .val (.int (n : Int)), .val (.lst (pool.map .str)), .val (msD ms), .val (.lst (N.map .str)), .non]) (cc := evC (callK G T (k + 5)) G .none) (elt := evE (callK G T (k + 5)) G (.call 210 (.cons (.v 0) (.cons (.v 6) (.cons (.v 4) (.cons (.v 3) (.cons (.v 5) .nil))))))) (c2 := 20000) (R := fun x y => ∃ n, x = D.str n ∧ SlP ms n N y) (by omega) (N.map .str) fun x hx => by
    obtain ⟨nm, hnm, rfl⟩ := List.mem_map.mp hx
    have h0 : 0 < N.length := List.length_pos_iff.mpr fun e => by rw [e] at hnm; cases hnm
    refine ⟨_, rfl, fun s => by simp, ?_⟩
    exact ((slide_dr p k hms pn pk p0 (by omega) hNk h0 (by omega) (hNk nm hnm)).imp (by decide) fun d h => ⟨nm, rfl, h⟩).eq fun s => by simp
  obtain ⟨l, a1, q1, f1, l1, u1, k1, al⟩ := hd a q ha hq (by rw [List.length_map]; omega)
  rw [List.length_map] at u1
  obtain ⟨sl, rfl, e1, e2⟩ := all2_sl al
  have hsl : sl.length = N.length := by rw [← e1, List.length_map]
  refine ⟨dkD ms sl, a1, q1, ?_, l1, by omega, k1, ms, sl, rfl, ⟨hms, ⟨by omega, fun t h => (e2 t h).1, by rw [e1]; exact hNn, fun t h => (e2 t h).2.1, fun t h => by rw [e1]; exact (e2 t h).2.2⟩⟩, hml, by omega, hm6, fun t ht => (hNk' _ (by rw [← e1]; exact List.mem_map_of_mem ht)).2⟩
  have hll : N.length ≤ 16777216 := by omega
  simp [startE, hll, wipeE, f1, noEx, lim]
  rfl
end Ms

set_option Elab.async false
set_option linter.all false
set_option autoImplicit false
set_option maxRecDepth 100000
set_option maxHeartbeats 4000000
namespace Ms
/-! ## Faults of masters and slides that are fine one by one -/
def fwv (n : Nat) (b : Nat → Bool) : D := match (List.range n).find? b with
  | some i => .int (i : Int)
  | none => .non
theorem fwGo_find {p : Nat → Sto → Rs Bool} {s : Sto} {b : Nat → Bool} : ∀ (n k : Nat), (∀ i, k ≤ i → i < k + n → p i s = .ok (b i) s) → fwGo p k n s = .ok (match (List.range' k n).find? b with
  | some i => .int (i : Int)
  | none => .non) s
  | 0, k, _ => rfl
  | n + 1, k, h => by
    have h0 := h k (by omega) (by omega)
    have ih := fwGo_find (b := b) n (k + 1) fun i h1 h2 => h i (by omega) (by omega)
    simp only [fwGo, h0, Rs.bind_ok, List.range'_succ, List.find?_cons]
    cases hb : b k with
    | true => rfl
    | false => simpa [hb] using ih
theorem fw_find {C : Calls} {a b : E} {caps : List Nat} {nl : Nat} {e : Env} {s : Sto} {x : D} {n : Nat} {vs : List D} (B : Nat → Bool) (h : evE C G a e s = .ok x s) (hb : b1 .len (der s x) = some (.int (n : Int))) (hn : n ≤ 1000000) (hv : getAll caps e = some vs) (hf : ∀ i, i < n → evE C G b (startE nl (.int (i : Int) :: vs)) s = .ok (.bl (B i)) s) : evE C G (.fw a caps nl b) e s = .ok (fwv n B) s := by
  have hm : midInt (n : Int) = true := mid_of (by omega) (by omega)
  rw [evE_fw_27, h, Rs.bind_ok, hb, Rs.of_some, Rs.bind_ok, hv, Rs.of_some, Rs.bind_ok]
  simp only [hm, Int.toNat_natCast]
  rw [fwGo_find (b := B) n 0 fun i _ hi => by
    show (evE C G b (startE nl (.int (i : Int) :: vs)) s).bind truthR = _
    rw [hf i (by omega), Rs.bind_ok, vtruth_bl]]
  rw [← List.range_eq_range']
  rfl
theorem fwv_non {n : Nat} {b : Nat → Bool} (h : fwv n b = .non) : ∀ i, i < n → b i = false := by
  unfold fwv at h
  split at h
  · cases h
  · rename_i hf
    intro i hi
    have := List.find?_eq_none.mp hf i (List.mem_range.mpr hi)
    simpa using this
theorem fwv_cases (n : Nat) (b : Nat → Bool) : (fwv n b = .non ∧ ∀ i, i < n → b i = false) ∨ ∃ i : Nat, fwv n b = .int (i : Int) ∧ i < n ∧ b i = true := by
  cases h : (List.range n).find? b with
  | none => exact .inl ⟨by simp [fwv, h], fwv_non (by simp [fwv, h])⟩
  | some i => exact .inr ⟨i, by simp [fwv, h], List.mem_range.mp (List.mem_of_find?_eq_some h), List.find?_some h⟩
theorem ahead_eval {C : Calls} {e : Env} {s : Sto} {l : List (List Nat)} {i : Nat} (h0 : e.get 0 = some (.int (i : Int))) (h1 : e.get 1 = some (.lst (l.map .str))) (hi : i < l.length) : evE C G (.cmp .isin (.ix (.v 1) (.v 0)) (.fl (.slc (.v 1) .none (.some (.v 0))))) e s = .ok (.bl (decide (l[i] ∈ l.take i))) s := by
  have e1 := ev_ixl (C := C) (s := s) (ev_v h1) (ev_v h0) (show i < (l.map D.str).length by simpa using hi)
  rw [List.getElem_map] at e1
  have e2 : evE C G (.fl (.slc (.v 1) .none (.some (.v 0)))) e s = .ok (.lst ((l.take i).map .str)) s := by
    rw [evE_fl_26, evF_slc_2, ev_v h1, Rs.bind_ok, evO_none_0, Rs.bind_ok, evO_some_1, ev_v h0, Rs.bind_ok]
    have : sliceL (der s (.lst (l.map .str))) none (some (i : Int)) = some ((l.take i).map .str) := by
      show some (cut _ _ _) = _
      rw [cut_take _ _ (by simp; omega), List.map_take]
    simp only [optInt, Rs.of_some, Rs.bind_ok, this]
  have e3 := isIn_strs l[i] (l.take i)
  rw [evE_cmp_5, e1, Rs.bind_ok, e2, Rs.bind_ok, der_str', der_lst']
  have e4 : cmpop .isin (.str l[i]) (.lst ((l.take i).map .str)) = some (decide (l[i] ∈ l.take i)) := e3
  rw [e4]
  rfl
def dupB (l : List (List Nat)) (i : Nat) : Bool := if h : i < l.length then decide (l[i] ∈ l.take i) else false
theorem nodup_of {l : List (List Nat)} (h : ∀ i, i < l.length → dupB l i = false) : l.Nodup := by
  refine List.pairwise_iff_getElem.mpr fun i j hi hj hij he => ?_
  have := h j hj
  simp only [dupB, hj, dif_pos, decide_eq_false_iff_not] at this
  exact this (he ▸ List.mem_take_iff_getElem.mpr ⟨i, by omega, rfl⟩)
theorem dup_no {l : List (List Nat)} (h : l.Nodup) {i : Nat} (hi : i < l.length) : dupB l i = false := by
  simp only [dupB, hi, dif_pos, decide_eq_false_iff_not]
  exact nodup_take h hi
def overB (ms : List Ma) (i : Nat) : Bool := match ms[i]? with
  | some m => (match m.ov with
    | some o => !decide (o ∈ ms.map Ma.nm)
    | none => false)
  | none => false
theorem ss_retif {C : Calls} {c a : E} {r : Ss} {e : Env} {s : Sto} {d : D} (h : evE C G c e s = .ok (.bl true) s) (ha : evE C G a e s = .ok d s) : evSs C G (.cons (.ifs c (.cons (.ret a) .nil) .nil) r) e s = .rt d s := by
  rw [ss_take_ret h, ss_ret ha]
theorem fm_bad (k : Nat) (s : Sto) {ms : List Ma} (ok : ∀ m ∈ ms, m.ok) (h12 : ms.length ≤ 12) (hbad : ¬ ((ms.map Ma.nm).Nodup ∧ ∀ m ∈ ms, ∀ o, m.ov = some o → o ∈ ms.map Ma.nm)) : ∃ x y, callK G T (k + 8) n_fault_of_masters [msD ms] s = .ok (.tup [x, y]) s := by
  have hlen : (ms.map Ma.d).length = ms.length := List.length_map ..
  have hb : ∀ s, b1 .len (der s (msD ms)) = some (.int (ms.length : Int)) := fun s => by
    show some (D.int ((ms.map Ma.d).length : Int)) = _
    rw [hlen]
  suffices h : ∃ x y, evSs (callK G T (k + 7)) G F_fault_of_masters (startE 4 [msD ms]) s = .rt (.tup [x, y]) s by
    obtain ⟨x, y, h⟩ := h
    exact ⟨x, y, by rw [call_eq T_fault_of_masters rfl]; exact runB_rt h⟩
  have st : startE 4 [msD ms] = [.val (msD ms), .non, .non, .non] := rfl
  rw [st]
  unfold F_fault_of_masters
  have f1 : evE (callK G T (k + 7)) G (.fw (.v 0) [0] 2 (.not (.call 16 (.cons (.ix (.v 1) (.v 0)) .nil)))) [.val (msD ms), .non, .non, .non] s = .ok .non s := by
    refine fw_none (x := msD ms) (vs := [msD ms]) (ev_v rfl) (hb s) (by omega) rfl fun i hi => ?_
    have e1 := ev_ixt (C := callK G T (k + 7)) (e := startE 2 [.int (i : Int), msD ms]) (s := s) (l := ms.map Ma.d) (a := .v 1) (b := .v 0) (ev_v rfl) (ev_v rfl) (by omega)
    rw [List.getElem_map] at e1
    have e2 := master_true k s (ok ms[i] (List.getElem_mem hi))
    rw [ev_not ((ev_call1 e1).trans e2)]
    rfl
  rw [ss_set f1]
  have s1 : ([.val (msD ms), .non, .non, .non] : Env).set 1 (.val .non) = [.val (msD ms), .val .non, .non, .non] := rfl
  rw [s1, ss_skip (ev_notN_non (ev_v rfl)), evSs_cons_1, evS_own_1]
  have f2 : evF (callK G T (k + 7)) G (.lc (.ix (.v 3) (.k (.int 0))) (.name 3) (.seq (.v 0)) .none [3]) [.val (msD ms), .val .non, .non, .non] s = .ok ((ms.map Ma.nm).map .str) s := by
    have hll : ms.length ≤ lim := le_lim h12 (by decide)
    have hlc := lc_map (tg := .name 3) (env := [.val (msD ms), .val .non, .non, .non]) (cc := evC (callK G T (k + 7)) G .none) (elt := evE (callK G T (k + 7)) G (.ix (.v 3) (.k (.int 0)))) (s := s) Ma.d (D.str ∘ Ma.nm) ms fun m hm => ⟨_, rfl, by simp, by simp [Ma.d]⟩
    unfold msD at hlc ⊢
    simp [wipeE, hll, hlc, noEx]
  rw [f2, Rs.bindS_ok, SRs.bind_nx, evSs_frz_2]
  obtain ⟨N, hN⟩ : ∃ N, N = D.lst ((ms.map Ma.nm).map .str) := ⟨_, rfl⟩
  have s2 : frzE 2 (([.val (msD ms), .val .non, .non, .non] : Env).set 2 (.own ((ms.map Ma.nm).map .str))) = some [.val (msD ms), .val .non, .val N, .non] := by rw [hN]; rfl
  simp only [s2]
  have f3 : evE (callK G T (k + 7)) G (.fw (.v 0) [2] 2 (.cmp .isin (.ix (.v 1) (.v 0)) (.fl (.slc (.v 1) .none (.some (.v 0)))))) [.val (msD ms), .val .non, .val N, .non] s = .ok (fwv ms.length (dupB (ms.map Ma.nm))) s := by
    refine fw_find _ (x := msD ms) (vs := [N]) (ev_v rfl) (hb s) (by omega) rfl fun i hi => ?_
    have hi' : i < (ms.map Ma.nm).length := by simpa using hi
    simp only [dupB, hi', dif_pos]
    exact ahead_eval (l := ms.map Ma.nm) rfl (by rw [hN]; rfl) hi'
  rw [ss_set f3]
  rcases fwv_cases ms.length (dupB (ms.map Ma.nm)) with ⟨h1, h2⟩ | ⟨i, h1, h2, h3⟩
  · rw [h1]
    have s3 : ([.val (msD ms), .val .non, .val N, .non] : Env).set 1 (.val .non) = [.val (msD ms), .val .non, .val N, .non] := rfl
    rw [s3, ss_skip (ev_notN_non (ev_v rfl))]
    have f4 : evE (callK G T (k + 7)) G (.fw (.v 0) [2, 0] 3 (.and (.notN (.ix (.ix (.v 2) (.v 0)) (.k (.int 1)))) (.cmp .notin (.ix (.ix (.v 2) (.v 0)) (.k (.int 1))) (.v 1)))) [.val (msD ms), .val .non, .val N, .non] s = .ok (fwv ms.length (overB ms)) s := by
      refine fw_find _ (x := msD ms) (vs := [N, msD ms]) (ev_v rfl) (hb s) (by omega) rfl fun i hi => ?_
      have e1 := ixt_nat (l := ms.map Ma.d) (i := i) (by omega)
      rw [List.getElem_map] at e1
      have e2 : overB ms i = (match ms[i].ov with
        | some o => !decide (o ∈ ms.map Ma.nm)
        | none => false) := by simp only [overB, List.getElem?_eq_getElem hi]
      rw [e2, hN]
      cases ho : ms[i].ov with
      | none => simp [startE, msD, e1, Ma.d, ho, ovD]
      | some o => simp [startE, msD, e1, Ma.d, ho, ovD, -List.map_map, -List.mem_map]
    rw [ss_set f4]
    rcases fwv_cases ms.length (overB ms) with ⟨g1, g2⟩ | ⟨i, g1, g2, g3⟩
    · exfalso
      refine hbad ⟨nodup_of (fun i hi => h2 i (by simpa using hi)), fun m hm o ho => ?_⟩
      obtain ⟨i, hi, rfl⟩ := List.mem_iff_getElem.mp hm
      have := g2 i hi
      simp only [overB, List.getElem?_eq_getElem hi, ho] at this
      simpa using this
    · rw [g1]
      exact ⟨_, _, ss_retif (by simp) (by simp [lim]; exact ⟨rfl, rfl⟩)⟩
  · rw [h1]
    exact ⟨_, _, ss_retif (by simp) (by simp [lim]; exact ⟨rfl, rfl⟩)⟩
end Ms

set_option Elab.async false
set_option linter.all false
set_option autoImplicit false
set_option maxRecDepth 100000
set_option maxHeartbeats 4000000
namespace Ms
/-! ## Faults of slides -/
theorem astray_eval (k : Nat) (s : Sto) {t : Sl} {names : List (List Nat)} (hl : t.links.length ≤ 12) : callK G T (k + 1) n_leads_astray [t.d, .lst (names.map .str)] s = .ok (.bl (t.links.any fun q => !q.2.inB names)) s := by
  rw [call_eq T_leads_astray rfl]
  have hll : t.links.length ≤ lim := le_lim hl (by decide)
  have hlc := lc_map (tg := .tup [2, 3]) (env := [.val t.d, .val (.lst (names.map .str)), .non, .non]) (cc := evC (callK G T k) G .none) (elt := evE (callK G T k) G (.and (.cmp .eq (.ix (.v 3) (.k (.int 0))) (.k (.str [115, 108, 105, 100, 101]))) (.cmp .notin (.ix (.v 3) (.k (.int 1))) (.v 1)))) (s := s) (fun q : List Nat × Tr => keyV (lkD q)) (fun q => .bl (!q.2.inB names)) t.links fun q hq => by
    obtain ⟨n, t'⟩ := q
    cases t' with
    | to x => exact ⟨_, rfl, by simp, by simp [keyV, lkD, Tr.d, Tr.inB]⟩
    | first => exact ⟨_, rfl, by simp, by simp [keyV, lkD, Tr.d, Tr.inB]⟩
    | last => exact ⟨_, rfl, by simp, by simp [keyV, lkD, Tr.d, Tr.inB]⟩
    | ret => exact ⟨_, rfl, by simp, by simp [keyV, lkD, Tr.d, Tr.inB]⟩
  have ha := any_map (fun q : List Nat × Tr => !q.2.inB names) t.links
  have e1 : (t.links.map lkD).map keyV = t.links.map fun q => keyV (lkD q) := by rw [List.map_map]; rfl
  have e5 : index t.d (.int 5) = some (.tup (t.links.map fun q => keyV (lkD q))) := by
    unfold Sl.d linksD
    rw [e1, z_ix5]
  have hd : ∀ s, der s t.d = t.d := fun s => rfl
  simp [runB, F_leads_astray, startE, e5, hd, wipeE, hll, hlc, noEx, ha]
def underB (ms : List Ma) (sl : List Sl) (i : Nat) : Bool := match sl[i]? with
  | some t => !decide (t.ms ∈ ms.map Ma.nm)
  | none => false
def linkB (sl : List Sl) (i : Nat) : Bool := match sl[i]? with
  | some t => t.links.any fun q => !q.2.inB (sl.map Sl.nm)
  | none => false
theorem fs_bad (k : Nat) (s : Sto) {ms : List Ma} {sl : List Sl} (h12 : ms.length ≤ 12) (ok : ∀ t ∈ sl, t.ok) (h40 : sl.length ≤ 40) (hbad : ¬ ((sl.map Sl.nm).Nodup ∧ (∀ t ∈ sl, t.ms ∈ ms.map Ma.nm) ∧ ∀ t ∈ sl, ∀ q ∈ t.links, q.2.inB (sl.map Sl.nm) = true)) : ∃ x y, callK G T (k + 7) n_fault_of_slides [msD ms, slD sl] s = .ok (.tup [x, y]) s := by
  have hlen : (sl.map Sl.d).length = sl.length := List.length_map ..
  have hb : ∀ s, b1 .len (der s (slD sl)) = some (.int (sl.length : Int)) := fun s => by
    show some (D.int ((sl.map Sl.d).length : Int)) = _
    rw [hlen]
  suffices h : ∃ x y, evSs (callK G T (k + 6)) G F_fault_of_slides (startE 7 [msD ms, slD sl]) s = .rt (.tup [x, y]) s by
    obtain ⟨x, y, h⟩ := h
    exact ⟨x, y, by rw [call_eq T_fault_of_slides rfl]; exact runB_rt h⟩
  have st : startE 7 [msD ms, slD sl] = [.val (msD ms), .val (slD sl), .non, .non, .non, .non, .non] := rfl
  rw [st]
  unfold F_fault_of_slides
  obtain ⟨N, hN⟩ : ∃ N, N = D.lst ((sl.map Sl.nm).map .str) := ⟨_, rfl⟩
  obtain ⟨O, hO⟩ : ∃ O, O = D.lst ((ms.map Ma.nm).map .str) := ⟨_, rfl⟩
  have f1 : evE (callK G T (k + 6)) G (.fw (.v 1) [1] 2 (.not (.call 40 (.cons (.ix (.v 1) (.v 0)) .nil)))) [.val (msD ms), .val (slD sl), .non, .non, .non, .non, .non] s = .ok .non s := by
    refine fw_none (x := slD sl) (vs := [slD sl]) (ev_v rfl) (hb s) (by omega) rfl fun i hi => ?_
    have e1 := ev_ixt (C := callK G T (k + 6)) (e := startE 2 [.int (i : Int), slD sl]) (s := s) (l := sl.map Sl.d) (a := .v 1) (b := .v 0) (ev_v rfl) (ev_v rfl) (by omega)
    rw [List.getElem_map] at e1
    have e2 := slide_true k s (ok sl[i] (List.getElem_mem hi))
    rw [ev_not ((ev_call1 e1).trans e2)]
    rfl
  rw [ss_set f1]
  have s1 : ([.val (msD ms), .val (slD sl), .non, .non, .non, .non, .non] : Env).set 2 (.val .non) = [.val (msD ms), .val (slD sl), .val .non, .non, .non, .non, .non] := rfl
  rw [s1, ss_skip (ev_notN_non (ev_v rfl)), evSs_cons_1, evS_own_1]
  have f2 : evF (callK G T (k + 6)) G (.lc (.ix (.v 4) (.k (.int 0))) (.name 4) (.seq (.v 1)) .none [4]) [.val (msD ms), .val (slD sl), .val .non, .non, .non, .non, .non] s = .ok ((sl.map Sl.nm).map .str) s := by
    have hll : sl.length ≤ lim := le_lim h40 (by decide)
    have hlc := lc_map (tg := .name 4) (env := [.val (msD ms), .val (slD sl), .val .non, .non, .non, .non, .non]) (cc := evC (callK G T (k + 6)) G .none) (elt := evE (callK G T (k + 6)) G (.ix (.v 4) (.k (.int 0)))) (s := s) Sl.d (D.str ∘ Sl.nm) sl fun m hm => ⟨_, rfl, by simp, by simp [Sl.d]⟩
    unfold slD at hlc ⊢
    simp [wipeE, hll, hlc, noEx]
  rw [f2, Rs.bindS_ok, SRs.bind_nx, evSs_frz_2]
  have s2 : frzE 3 (([.val (msD ms), .val (slD sl), .val .non, .non, .non, .non, .non] : Env).set 3 (.own ((sl.map Sl.nm).map .str))) = some [.val (msD ms), .val (slD sl), .val .non, .val N, .non, .non, .non] := by rw [hN]; rfl
  simp only [s2]
  have f3 : evE (callK G T (k + 6)) G (.fw (.v 1) [3] 2 (.cmp .isin (.ix (.v 1) (.v 0)) (.fl (.slc (.v 1) .none (.some (.v 0)))))) [.val (msD ms), .val (slD sl), .val .non, .val N, .non, .non, .non] s = .ok (fwv sl.length (dupB (sl.map Sl.nm))) s := by
    refine fw_find _ (x := slD sl) (vs := [N]) (ev_v rfl) (hb s) (by omega) rfl fun i hi => ?_
    have hi' : i < (sl.map Sl.nm).length := by simpa using hi
    simp only [dupB, hi', dif_pos]
    exact ahead_eval (l := sl.map Sl.nm) rfl (by rw [hN]; rfl) hi'
  rw [ss_set f3]
  rcases fwv_cases sl.length (dupB (sl.map Sl.nm)) with ⟨h1, h2⟩ | ⟨i, h1, h2, h3⟩
  · rw [h1]
    have s3 : ([.val (msD ms), .val (slD sl), .val .non, .val N, .non, .non, .non] : Env).set 2 (.val .non) = [.val (msD ms), .val (slD sl), .val .non, .val N, .non, .non, .non] := rfl
    rw [s3, ss_skip (ev_notN_non (ev_v rfl)), evSs_cons_1, evS_own_1]
    have f4 : evF (callK G T (k + 6)) G (.lc (.ix (.v 6) (.k (.int 0))) (.name 6) (.seq (.v 0)) .none [6]) [.val (msD ms), .val (slD sl), .val .non, .val N, .non, .non, .non] s = .ok ((ms.map Ma.nm).map .str) s := by
      have hll : ms.length ≤ lim := le_lim h12 (by decide)
      have hlc := lc_map (tg := .name 6) (env := [.val (msD ms), .val (slD sl), .val .non, .val N, .non, .non, .non]) (cc := evC (callK G T (k + 6)) G .none) (elt := evE (callK G T (k + 6)) G (.ix (.v 6) (.k (.int 0)))) (s := s) Ma.d (D.str ∘ Ma.nm) ms fun m hm => ⟨_, rfl, by simp, by simp [Ma.d]⟩
      unfold msD at hlc ⊢
      simp [wipeE, hll, hlc, noEx]
    rw [f4, Rs.bindS_ok, SRs.bind_nx, evSs_frz_2]
    have s4 : frzE 5 (([.val (msD ms), .val (slD sl), .val .non, .val N, .non, .non, .non] : Env).set 5 (.own ((ms.map Ma.nm).map .str))) = some [.val (msD ms), .val (slD sl), .val .non, .val N, .non, .val O, .non] := by rw [hO]; rfl
    simp only [s4]
    have f5 : evE (callK G T (k + 6)) G (.fw (.v 1) [5, 1] 3 (.cmp .notin (.ix (.ix (.v 2) (.v 0)) (.k (.int 1))) (.v 1))) [.val (msD ms), .val (slD sl), .val .non, .val N, .non, .val O, .non] s = .ok (fwv sl.length (underB ms sl)) s := by
      refine fw_find _ (x := slD sl) (vs := [O, slD sl]) (ev_v rfl) (hb s) (by omega) rfl fun i hi => ?_
      have e1 := ixt_nat (l := sl.map Sl.d) (i := i) (by omega)
      rw [List.getElem_map] at e1
      simp only [underB, List.getElem?_eq_getElem hi]
      rw [hO]
      simp [startE, slD, e1, Sl.d, -List.map_map, -List.mem_map]
    rw [ss_set f5]
    have s5 : ([.val (msD ms), .val (slD sl), .val .non, .val N, .non, .val O, .non] : Env).set 2 (.val .non) = [.val (msD ms), .val (slD sl), .val .non, .val N, .non, .val O, .non] := rfl
    rcases fwv_cases sl.length (underB ms sl) with ⟨g1, g2⟩ | ⟨i, g1, g2, g3⟩
    · rw [g1, s5, ss_skip (ev_notN_non (ev_v rfl))]
      have f6 : evE (callK G T (k + 6)) G (.fw (.v 1) [3, 1] 3 (.call 42 (.cons (.ix (.v 2) (.v 0)) (.cons (.v 1) .nil)))) [.val (msD ms), .val (slD sl), .val .non, .val N, .non, .val O, .non] s = .ok (fwv sl.length (linkB sl)) s := by
        refine fw_find _ (x := slD sl) (vs := [N, slD sl]) (ev_v rfl) (hb s) (by omega) rfl fun i hi => ?_
        have e1 := ev_ixt (C := callK G T (k + 6)) (e := startE 3 [.int (i : Int), N, slD sl]) (s := s) (l := sl.map Sl.d) (a := .v 2) (b := .v 0) (ev_v rfl) (ev_v rfl) (by omega)
        rw [List.getElem_map] at e1
        have e2 := astray_eval (k + 5) s (t := sl[i]) (names := sl.map Sl.nm) (ok _ (List.getElem_mem hi)).ll
        rw [← hN] at e2
        simp only [linkB, List.getElem?_eq_getElem hi]
        exact (ev_call2 (d2 := N) e1 (ev_v rfl)).trans e2
      rw [ss_set f6]
      rcases fwv_cases sl.length (linkB sl) with ⟨i1, i2⟩ | ⟨i, i1, i2, i3⟩
      · exfalso
        refine hbad ⟨nodup_of (fun i hi => h2 i (by simpa using hi)), fun t ht => ?_, fun t ht q hq => ?_⟩
        · obtain ⟨i, hi, rfl⟩ := List.mem_iff_getElem.mp ht
          have := g2 i hi
          simp only [underB, List.getElem?_eq_getElem hi] at this
          simpa using this
        · obtain ⟨i, hi, rfl⟩ := List.mem_iff_getElem.mp ht
          have := i2 i hi
          simp only [linkB, List.getElem?_eq_getElem hi] at this
          have := List.any_eq_false.mp this q hq
          simpa using this
      · rw [i1]
        exact ⟨_, _, ss_retif (by simp) (by simp [lim]; exact ⟨rfl, rfl⟩)⟩
    · rw [g1]
      exact ⟨_, _, ss_retif (by simp) (by simp [lim]; exact ⟨rfl, rfl⟩)⟩
  · rw [h1]
    exact ⟨_, _, ss_retif (by simp) (by simp [lim]; exact ⟨rfl, rfl⟩)⟩
/-- the last one is no slide -/
theorem fs_slide (k : Nat) (s : Sto) {m x : D} {sl : List Sl} (ok : ∀ t ∈ sl, t.ok) (h40 : sl.length ≤ 39) (hx : callK G T (k + 6) n_is_slide [x] s = .ok (.bl false) s) : ∃ x' y, callK G T (k + 7) n_fault_of_slides [m, .tup (sl.map Sl.d ++ [x])] s = .ok (.tup [x', y]) s := by
  have hlen : (sl.map Sl.d ++ [x]).length = sl.length + 1 := by simp
  suffices h : ∃ x' y, evSs (callK G T (k + 6)) G F_fault_of_slides (startE 7 [m, .tup (sl.map Sl.d ++ [x])]) s = .rt (.tup [x', y]) s by
    obtain ⟨x', y, h⟩ := h
    exact ⟨x', y, by rw [call_eq T_fault_of_slides rfl]; exact runB_rt h⟩
  obtain ⟨L, hL⟩ : ∃ L, L = sl.map Sl.d ++ [x] := ⟨_, rfl⟩
  rw [← hL] at hlen ⊢
  have st : startE 7 [m, .tup L] = [.val m, .val (.tup L), .non, .non, .non, .non, .non] := rfl
  rw [st]
  unfold F_fault_of_slides
  have f1 : evE (callK G T (k + 6)) G (.fw (.v 1) [1] 2 (.not (.call 40 (.cons (.ix (.v 1) (.v 0)) .nil)))) [.val m, .val (.tup L), .non, .non, .non, .non, .non] s = .ok (fwv (sl.length + 1) fun i => decide (i = sl.length)) s := by
    refine fw_find _ (x := .tup L) (vs := [.tup L]) (ev_v rfl) (by rw [der_tup', z_len_tup, hlen]) (by omega) rfl fun i hi => ?_
    have e1 := ev_ixt (C := callK G T (k + 6)) (e := startE 2 [.int (i : Int), .tup L]) (s := s) (l := L) (a := .v 1) (b := .v 0) (ev_v rfl) (ev_v rfl) (by omega)
    by_cases hi2 : i = sl.length
    · have : L[i]'(by omega) = x := by
        subst hi2
        simp [hL]
      rw [this] at e1
      rw [ev_not ((ev_call1 e1).trans hx), decide_eq_true hi2]
      rfl
    · have hi3 : i < sl.length := by omega
      have : L[i]'(by omega) = sl[i].d := by
        simp only [hL]
        rw [List.getElem_append_left (by simpa using hi3), List.getElem_map]
      rw [this] at e1
      rw [ev_not ((ev_call1 e1).trans (slide_true k s (ok _ (List.getElem_mem hi3)))), decide_eq_false hi2]
      rfl
  rw [ss_set f1]
  rcases fwv_cases (sl.length + 1) (fun i => decide (i = sl.length)) with ⟨h1, h2⟩ | ⟨i, h1, h2, h3⟩
  · have := h2 sl.length (by omega)
    simp at this
  · rw [h1]
    exact ⟨_, _, ss_retif (by simp) (by simp [lim]; exact ⟨rfl, rfl⟩)⟩
end Ms

set_option Elab.async false
set_option linter.all false
set_option autoImplicit false
set_option maxRecDepth 100000
set_option maxHeartbeats 4000000
namespace Ms
/-! ## Plain values; what is no deck -/
def Pd (n : Nat) (d : D) : Prop := d.plain = true ∧ d.depth ≤ n
theorem plainL_iff : ∀ {l : List D}, D.plainL l = true ↔ ∀ x ∈ l, x.plain = true
  | [] => by simp
  | x :: r => by simp [plainL_iff (l := r)]
theorem depthL_le : ∀ {l : List D} {n : Nat}, (∀ x ∈ l, x.depth ≤ n) → D.depthL l ≤ n
  | [], _, _ => by simp
  | x :: r, n, h => by
    rw [depthL_cons]
    exact Nat.max_le.mpr ⟨h x List.mem_cons_self, depthL_le fun y hy => h y (List.mem_cons_of_mem _ hy)⟩
theorem Pd.tup {n : Nat} {l : List D} (h : ∀ x ∈ l, Pd n x) : Pd (n + 1) (.tup l) :=
  ⟨by rw [plain_tup]; exact plainL_iff.mpr fun x hx => (h x hx).1, by rw [depth_tup]; exact Nat.succ_le_succ (depthL_le fun x hx => (h x hx).2)⟩
theorem Pd.lst {n : Nat} {l : List D} (h : ∀ x ∈ l, Pd n x) : Pd (n + 1) (.lst l) :=
  ⟨by rw [plain_lst]; exact plainL_iff.mpr fun x hx => (h x hx).1, by rw [depth_lst]; exact Nat.succ_le_succ (depthL_le fun x hx => (h x hx).2)⟩
theorem Pd.str {n : Nat} (x : List Nat) : Pd n (.str x) := ⟨plain_str x, by simp⟩
theorem Pd.int {n : Nat} (x : Int) : Pd n (.int x) := ⟨plain_int x, by simp⟩
theorem Pd.non {n : Nat} : Pd n .non := ⟨plain_non, by simp⟩
theorem Pd.bl {n : Nat} (b : Bool) : Pd n (.bl b) := ⟨plain_bl b, by simp⟩
theorem Pd.imp {n m : Nat} {d : D} (h : Pd n d) (hm : n ≤ m) : Pd m d := ⟨h.1, Nat.le_trans h.2 hm⟩
theorem Pd.nil {n : Nat} {x : D} (h : x ∈ ([] : List D)) : Pd n x := by cases h
theorem Pd.cons {n : Nat} {a : D} {l : List D} (ha : Pd n a) (hl : ∀ x ∈ l, Pd n x) : ∀ x ∈ a :: l, Pd n x := fun x hx => (List.mem_cons.mp hx).elim (fun e => e ▸ ha) (hl x)
theorem Pd.map {α : Type} {n : Nat} {f : α → D} {l : List α} (h : ∀ x ∈ l, Pd n (f x)) : ∀ x ∈ l.map f, Pd n x := fun x hx => by
  obtain ⟨y, hy, rfl⟩ := List.mem_map.mp hx
  exact h y hy
theorem Pd.ok {n : Nat} {d : D} (h : Pd n d) (hn : n ≤ 64) : okEq d = true := by
  simp only [okEq, h.1, decide_eq_true (Nat.le_trans h.2 hn), Bool.and_self]
mutual
theorem eqv_refl : ∀ (d : D), d.plain = true → d.eqv d = true
  | .non, _ => by simp
  | .bl b, _ => by simp
  | .int i, _ => by simp
  | .str x, _ => by simp
  | .tup l, h => by rw [eqv_tup]; exact eqvL_refl l (by simpa using h)
  | .lst l, h => by rw [eqv_lst]; exact eqvL_refl l (by simpa using h)
  | .dct _, h => by simp [D.plain] at h
  | .obj _, h => by simp [D.plain] at h
  | .fn _, h => by simp [D.plain] at h
  | .frz _, h => by simp [D.plain] at h
theorem eqvL_refl : ∀ (l : List D), D.plainL l = true → D.eqvL l l = true
  | [], _ => by simp
  | x :: r, h => by
    rw [plainL_cons, Bool.and_eq_true] at h
    rw [eqvL_cons, eqv_refl x h.1, eqvL_refl r h.2]
    rfl
end
theorem ne_self {n : Nat} {d : D} (h : Pd n d) (hn : n ≤ 64) : cmpop .ne d d = some false := by
  simp [cmpop, pyEq, h.ok hn, eqv_refl d h.1]
theorem ne_ok {n m : Nat} {d d' : D} (h : Pd n d) (hn : n ≤ 64) (h' : Pd m d') (hm : m ≤ 64) : cmpop .ne d d' = some (!d.eqv d') := by
  simp [cmpop, pyEq, h.ok hn, h'.ok hm]
theorem GWrit.pd {m n : Nat} {d : D} (h : GWrit m d) : Pd n d := by
  obtain ⟨x, rfl, _⟩ := h
  exact .str x
theorem GLines.pd {d : D} (h : GLines d) : Pd 1 d := by
  obtain ⟨l, rfl, _, h⟩ := h
  exact .tup fun x hx => (h x hx).pd
theorem GWorth.pd {j n : Nat} {d : D} (h : GWorth j d) : Pd n d := by
  rcases h with ⟨_, i, rfl, _⟩ | ⟨_, x, rfl, _⟩
  · exact .int i
  · exact .str x
theorem Pl.ok.pd {q : Pl} (h : q.ok) : Pd 3 q.d := by
  refine .tup (.cons (.str _) (.cons (.tup (.map fun x hx => ?_)) (.cons ?_ fun x hx => .nil hx)))
  · exact (Pd.tup (n := 0) (.cons (.str _) (.cons (h.st x hx).2.pd fun x hx => .nil hx)))
  · rcases h.ln with e | e
    · rw [e]; exact .non
    · exact e.pd.imp (by decide)
theorem ovD_pd {n : Nat} (o : Option (List Nat)) : Pd n (ovD o) := by
  cases o
  · exact .non
  · exact .str _
theorem Ma.ok.pd {m : Ma} (h : m.ok) : Pd 5 m.d :=
  .tup (.cons (.str _) (.cons (ovD_pd _) (.cons (.tup (.map fun x hx => (h.own x hx).pd)) fun x hx => .nil hx)))
theorem Tr.pd (t : Tr) : Pd 1 t.d := by
  cases t with
  | to n => exact .tup (.cons (.str _) (.cons (.str _) fun x hx => .nil hx))
  | _ => exact .tup (.cons (.str _) fun x hx => .nil hx)
theorem Sl.ok.pd {t : Sl} (h : t.ok) : Pd 4 t.d := by
  refine .tup (.cons (.str _) (.cons (.str _) (.cons (.tup (.map fun x hx => ?_)) (.cons (.tup (.map fun x hx => ?_)) (.cons (.tup (.map fun x hx => ?_)) (.cons (.tup (.map fun x hx => ?_)) (.cons (.int _) (.cons (.str _) fun x hx => .nil hx))))))))
  · exact .tup (.cons (.str _) (.cons (.str _) (.cons (h.ho x hx).w.pd fun x hx => .nil hx)))
  · exact .tup (.cons (.str _) (.cons (h.fo x hx).2.pd fun x hx => .nil hx))
  · refine .tup (.cons (.str _) (.cons (.int _) (.cons (.str _) (.cons (.str _) (.cons ?_ fun x hx => .nil hx)))))
    rcases (h.so x hx).ln with e | ⟨r, e, _⟩
    · rw [e]; exact .non
    · rw [e]; exact .int _
  · obtain ⟨q, hq, rfl⟩ := List.mem_map.mp hx
    exact .tup (.cons (.str _) (.cons (Tr.pd _) fun x hx => .nil hx))
theorem msD_pd {ms : List Ma} (h : ∀ m ∈ ms, m.ok) : Pd 6 (msD ms) := .tup (.map fun m hm => (h m hm).pd)
theorem slD_pd {sl : List Sl} (h : ∀ t ∈ sl, t.ok) : Pd 5 (slD sl) := .tup (.map fun m hm => (h m hm).pd)
theorem dkD_pd {ms : List Ma} {sl : List Sl} (h : GDeck ms sl) : Pd 7 (dkD ms sl) := .tup (.cons (msD_pd h.m.ok) (.cons ((slD_pd h.s.ok).imp (by decide)) fun x hx => .nil hx))
/-! ### no deck -/
def NoDk (d : D) : Prop := ∀ k s, ∃ x l, callK G T (k + 9) n_fault_of [d] s = .ok (.tup (x :: l)) s
theorem NoDk.must {d : D} (h : NoDk d) (k : Nat) (s : Sto) : callK G T (k + 10) n_must_be_deck [d] s = .ex 0 (.dct []) s := by
  obtain ⟨x, l, e⟩ := h k s
  rw [call_eq T_must_be_deck rfl]
  simp [runB, F_must_be_deck, startE, e]
theorem G_24 : G 24 = .int 12 := by kernel_rfl
theorem G_11 : G 11 = .int 40 := by kernel_rfl
theorem fo_masters {ms : List Ma} {L : List D} (h1 : 1 ≤ ms.length) (h12 : ms.length ≤ 12) (hL : L.length ≤ 40) (h : ∀ k s, ∃ x y, callK G T (k + 8) n_fault_of_masters [msD ms] s = .ok (.tup [x, y]) s) : NoDk (.tup [msD ms, .tup L]) := fun k s => by
  obtain ⟨x, y, e⟩ := h k s
  refine ⟨x, [y], ?_⟩
  have i1 : (1 : Int) ≤ ms.length := by omega
  have i2 : (ms.length : Int) ≤ 12 := by omega
  have i3 : ¬ (40 : Int) < L.length := by omega
  rw [call_eq T_fault_of rfl]
  unfold msD at e ⊢
  simp [runB, F_fault_of, startE, setAll, unpS, G_24, G_11, i1, i2, i3, e]
theorem fo_slides {ms : List Ma} {L : List D} (hm : GMs ms) (hL : L.length ≤ 40) (h : ∀ k s, ∃ x y, callK G T (k + 7) n_fault_of_slides [msD ms, .tup L] s = .ok (.tup [x, y]) s) : NoDk (.tup [msD ms, .tup L]) := fun k s => by
  obtain ⟨x, y, e⟩ := h (k + 1) s
  refine ⟨x, [y], ?_⟩
  have e0 := fault_masters k s hm
  have i1 : (1 : Int) ≤ ms.length := by have := hm.lo; omega
  have i2 : (ms.length : Int) ≤ 12 := by have := hm.hi; omega
  have i3 : ¬ (40 : Int) < L.length := by omega
  rw [call_eq T_fault_of rfl]
  unfold msD at e e0 ⊢
  simp [runB, F_fault_of, startE, setAll, unpS, G_24, G_11, i1, i2, i3, e, e0]
end Ms

set_option Elab.async false
set_option linter.all false
set_option autoImplicit false
set_option maxRecDepth 100000
set_option maxHeartbeats 4000000
namespace Ms
/-! ## Things that are no deck -/
def nobody : List Nat := [110, 111, 98, 111, 100, 121]
def zz9 : List Nat := [122, 122, 57]
def bareS (m : List Nat) (lk : List (List Nat × Tr)) : Sl := ⟨zz9, m, [], [], [], lk, 0, []⟩
theorem nobody_ok : nameB nobody = true := by kernel_rfl
theorem zz9_ok : nameB zz9 = true := by kernel_rfl
theorem a_ok : nameB [97] = true := by kernel_rfl
theorem bare_ok {m : List Nat} {lk : List (List Nat × Tr)} (h : nameB m = true) (hl : lk.length ≤ 1) (ho : ∀ q ∈ lk, nameB q.1 = true ∧ q.2.ok) : (bareS m lk).ok := by
  refine ⟨zz9_ok, h, Nat.zero_le _, (fun _ h => by cases h), List.Pairwise.nil, Nat.zero_le _, (fun _ h => by cases h), List.Pairwise.nil, Nat.zero_le _, (fun _ h => by cases h), Nat.le_trans hl (by decide), ho, ?_, .inl rfl, ⟨[], rfl, by decide, fun c hc => by cases hc⟩⟩
  show Asc (lk.map lkD)
  match lk, hl with
  | [], _ => exact List.Pairwise.nil
  | [q], _ => exact List.pairwise_singleton _ _
theorem nd_0 : NoDk .non := fun k s => ⟨.str [100, 101, 99, 107], [], by kernel_rfl⟩
theorem nd_1 (ms : List Ma) (h : ms.length ≤ 3) : NoDk (msD ms) := fun k s => by
  match ms, h with
  | [], _ => exact ⟨.str [100, 101, 99, 107], [], by kernel_rfl⟩
  | [a], _ => exact ⟨.str [100, 101, 99, 107], [], by kernel_rfl⟩
  | [a, b], _ => exact ⟨.str [109, 97, 115, 116, 101, 114], [.int 0], by kernel_rfl⟩
  | [a, b, c], _ => exact ⟨.str [100, 101, 99, 107], [], by kernel_rfl⟩
theorem nd_2 (l : List D) : NoDk (.lst l) := fun k s => ⟨.str [100, 101, 99, 107], [], by kernel_rfl⟩
theorem nd_3 (ms : List Ma) (l : List D) : NoDk (.tup [msD ms, .lst l]) := fun k s => ⟨.str [100, 101, 99, 107], [], by kernel_rfl⟩
theorem nd_4 (l : List D) : NoDk (.tup [.tup [], .tup l]) := fun k s => ⟨.str [100, 101, 99, 107], [], by kernel_rfl⟩
theorem nd_6 (a b c : D) : NoDk (.tup [a, b, c]) := fun k s => ⟨.str [100, 101, 99, 107], [], by kernel_rfl⟩
variable {ms : List Ma} {sl : List Sl}
theorem nd_5 (h : GDeck ms sl) (h11 : ms.length ≤ 11) {m : Ma} (hm : m ∈ ms) : NoDk (.tup [msD (ms ++ [m]), slD sl]) := by
  refine fo_masters (by simp) (by simp; omega) (by simpa using h.s.hi) fun k s => fm_bad k s ?_ (by simp; omega) fun hbad => ?_
  · intro x hx
    rcases List.mem_append.mp hx with hx | hx
    · exact h.m.ok x hx
    · rw [List.mem_singleton.mp hx]; exact h.m.ok m hm
  · have := hbad.1
    rw [List.map_append] at this
    exact (List.nodup_append.mp this).2.2 _ (List.mem_map_of_mem hm) _ (by simp) rfl
theorem nd_7 {ms' : List Ma} {m : Ma} (h : GDeck (ms' ++ [m]) sl) (h6 : ∀ x ∈ ms' ++ [m], x.nm.length ≠ 6) : NoDk (.tup [msD (ms' ++ [⟨m.nm, some nobody, m.own⟩]), slD sl]) := by
  have hi := h.m.hi
  have hmok := h.m.ok m (by simp)
  refine fo_masters (by simp) (by simpa using hi) (by simpa using h.s.hi) fun k s => fm_bad k s ?_ (by simpa using hi) fun hbad => ?_
  · intro x hx
    rcases List.mem_append.mp hx with hx | hx
    · exact h.m.ok x (List.mem_append.mpr (.inl hx))
    · rw [List.mem_singleton.mp hx]
      exact ⟨hmok.nm, fun o ho => by rw [← Option.some.inj ho]; exact nobody_ok, hmok.len, hmok.own, hmok.nod⟩
  · have := hbad.2 ⟨m.nm, some nobody, m.own⟩ (by simp) nobody rfl
    rw [List.map_append] at this
    rcases List.mem_append.mp this with hx | hx
    · obtain ⟨x, hx, e⟩ := List.mem_map.mp hx
      exact h6 x (List.mem_append.mpr (.inl hx)) (by rw [e]; rfl)
    · have e := List.mem_singleton.mp hx
      exact h6 m (by simp) (by rw [show m.nm = nobody from e.symm]; rfl)
theorem more_ok (h : GDeck ms sl) {l : List Sl} (hl : ∀ t ∈ l, t.ok) : ∀ t ∈ sl ++ l, t.ok := fun t ht => (List.mem_append.mp ht).elim (h.s.ok t) (hl t)
theorem nd_8 (h : GDeck ms sl) (h38 : sl.length ≤ 38) {t : Sl} (ht : t.ok) : NoDk (.tup [msD ms, slD (sl ++ [t, t])]) := by
  refine fo_slides h.m (by simp; omega) fun k s => fs_bad k s h.m.hi (more_ok h fun x hx => ?_) (by simp; omega) fun hbad => ?_
  · rcases List.mem_cons.mp hx with rfl | hx
    · exact ht
    · rw [List.mem_singleton.mp hx]; exact ht
  · have := hbad.1
    rw [List.map_append] at this
    have := (List.nodup_append.mp this).2.1
    simp at this
theorem nd_9 (h : GDeck ms sl) (h38 : sl.length ≤ 38) (h6 : ∀ x ∈ ms, x.nm.length ≠ 6) : NoDk (.tup [msD ms, slD (sl ++ [bareS nobody []])]) := by
  refine fo_slides h.m (by simp; omega) fun k s => fs_bad k s h.m.hi (more_ok h fun x hx => ?_) (by simp; omega) fun hbad => ?_
  · rw [List.mem_singleton.mp hx]
    exact bare_ok nobody_ok (by decide) fun _ h => by cases h
  · have := hbad.2.1 (bareS nobody []) (by simp)
    obtain ⟨x, hx, e⟩ := List.mem_map.mp this
    exact h6 x hx (by rw [e]; rfl)
theorem nd_10 (h : GDeck ms sl) (h38 : sl.length ≤ 38) (h6 : ∀ x ∈ sl, x.nm.length ≠ 6) {m : Ma} (hm : m ∈ ms) : NoDk (.tup [msD ms, slD (sl ++ [bareS m.nm [([97], .to nobody)]])]) := by
  refine fo_slides h.m (by simp; omega) fun k s => fs_bad k s h.m.hi (more_ok h fun x hx => ?_) (by simp; omega) fun hbad => ?_
  · rw [List.mem_singleton.mp hx]
    refine bare_ok (h.m.ok m hm).nm (by decide) fun q hq => ?_
    rw [List.mem_singleton.mp hq]
    exact ⟨a_ok, nobody_ok⟩
  · have := hbad.2.2 (bareS m.nm [([97], .to nobody)]) (by simp) ([97], .to nobody) (by simp [bareS])
    simp only [Tr.inB, decide_eq_true_eq, List.map_append, List.mem_append] at this
    rcases this with hx | hx
    · obtain ⟨x, hx, e⟩ := List.mem_map.mp hx
      exact h6 x hx (by rw [e]; rfl)
    · simp [bareS, nobody, zz9] at hx
theorem ns_1 (k : Nat) (s : Sto) {n : List Nat} (hn : nameB n = true) : callK G T (k + 6) n_is_slide [.tup [.str zz9, .str n, .tup [.tup [.str [97], .str [115, 105, 122, 101], .int 100]], .tup [], .tup [], .tup [], .int 0, .str []]] s = .ok (.bl false) s := by
  have e1 := name_true (k + 4) s (d := .str n) ⟨n, rfl, hn⟩
  have e2 := name_true (k + 4) s (d := .str zz9) ⟨zz9, rfl, zz9_ok⟩
  have e3 : callK G T (k + 5) 32 [.tup [.tup [.str [97], .str [115, 105, 122, 101], .int 100]]] s = .ok (.bl false) s := by kernel_rfl
  rw [call_eq T_is_slide rfl]
  simp [runB, F_is_slide, startE, setAll, unpS, e1, e2, e3]
theorem ns_2 (k : Nat) (s : Sto) {n : List Nat} (hn : nameB n = true) : callK G T (k + 6) n_is_slide [.tup [.str zz9, .str n, .tup [], .tup [], .tup [], .tup [], .bl true, .str []]] s = .ok (.bl false) s := by
  have e1 := name_true (k + 4) s (d := .str n) ⟨n, rfl, hn⟩
  have e2 := name_true (k + 4) s (d := .str zz9) ⟨zz9, rfl, zz9_ok⟩
  have e3 : callK G T (k + 5) 32 [.tup []] s = .ok (.bl true) s := by kernel_rfl
  have e4 : callK G T (k + 5) 34 [.tup []] s = .ok (.bl true) s := by kernel_rfl
  have e5 : callK G T (k + 5) 36 [.tup []] s = .ok (.bl true) s := by kernel_rfl
  have e6 : callK G T (k + 5) 39 [.tup []] s = .ok (.bl true) s := by kernel_rfl
  have e7 : callK G T (k + 5) 1 [.bl true] s = .ok (.bl false) s := by kernel_rfl
  rw [call_eq T_is_slide rfl]
  simp [runB, F_is_slide, startE, setAll, unpS, e1, e2, e3, e4, e5, e6, e7]
theorem ns_3 (k : Nat) (s : Sto) (l : List D) : callK G T (k + 6) n_is_slide [.lst l] s = .ok (.bl false) s := by kernel_rfl
theorem nd_s (h : GDeck ms sl) (h38 : sl.length ≤ 38) {x : D} (hx : ∀ k s, callK G T (k + 6) n_is_slide [x] s = .ok (.bl false) s) : NoDk (.tup [msD ms, .tup (sl.map Sl.d ++ [x])]) :=
  fo_slides h.m (by simp; omega) fun k s => fs_slide k s h.s.ok (by omega) (hx k s)
end Ms

set_option Elab.async false
set_option linter.all false
set_option autoImplicit false
set_option maxRecDepth 100000
set_option maxHeartbeats 400000
namespace Ms
theorem sl_m1 (l : List D) (x : D) : sliceV (.tup (l ++ [x])) none (some (-1)) = some (.tup l) := by
  have h1 : ((-1 : Int) < 0) := by decide
  have h2 : (-1 + ((l ++ [x]).length : Int)).toNat = l.length := by simp; omega
  simp only [sliceV, cut, bnd, h1, if_true, h2, List.drop_zero, Nat.sub_zero]
  simp
theorem ix_m1 (l : List D) (x : D) : index (.tup (l ++ [x])) (.int (-1)) = some x := by
  have h1 : ¬ (0 : Int) ≤ -1 := by decide
  have h2 : -(((l ++ [x]).length : Nat) : Int) ≤ -1 := by simp; omega
  have h3 : (-1 + (((l ++ [x]).length : Nat) : Int)).toNat = l.length := by simp; omega
  show atIx _ _ = _
  simp only [atIx, ixPos, h1, if_false, h2, if_true, h3, Option.bind_some]
  simp
theorem sl_0 (l : List D) (n : Nat) : sliceV (.tup l) none (some (OfNat.ofNat n)) = some (.tup (l.take n)) := slice_tup l n
theorem sl_f (l : List D) (n : Nat) : sliceV (.tup l) (some (n : Int)) none = some (.tup (l.drop n)) := by
  have h1 : ¬ ((n : Int) < 0) := by omega
  simp only [sliceV, cut, bnd, h1, if_false, Int.toNat_natCast]
  rcases Nat.le_total n l.length with h | h
  · rw [Nat.min_eq_left h, List.take_of_length_le (by simp)]
  · rw [Nat.min_eq_right h, Nat.sub_self, List.take_zero, List.drop_of_length_le h]
def OthP (d : D) (x : D) : Prop := x = d ∨ ((∃ n, n ≤ 64 ∧ Pd n x) ∧ NoDk x)
theorem ixl_n (l : List D) (n : Nat) (h : n < l.length) : index (.lst l) (.int (n : Int)) = some l[n] := ix_nat h
theorem fault_free_dr (p : Pn) (k : Nat) {ms : List Ma} {sl : List Sl} (h : GDeck ms sl) (h3 : ms.length ≤ 3) (h38 : sl.length ≤ 30) (m6 : ∀ m ∈ ms, m.nm.length ≠ 6) (s6 : ∀ t ∈ sl, t.nm.length ≠ 6) : Dr p 1 (callK G T (k + 2) n__law_fault_free [.obj p.i, dkD ms sl]) (OthP (dkD ms sl)) := by
  refine Dr.eq (m := runB (callK G T (k + 1)) G 5 F__law_fault_free [.obj p.i, dkD ms sl]) ?_ fun s => by rw [call_eq T__law_fault_free rfl]
  intro a q ha hq hb
  obtain ⟨_, a1, q1, f1, l1, u1, k1, r, rfl, r1⟩ := dr_draw2 p k (m := 28) (by decide) (by decide) a q ha hq hb
  have pm := msD_pd h.m.ok
  have ps := slD_pd h.s.ok
  have hlen := h.m.lo
  obtain ⟨m0, rest, hms⟩ : ∃ m0 rest, ms = m0 :: rest := by
    cases ms with
    | nil => simp at hlen
    | cons a b => exact ⟨a, b, rfl⟩
  obtain ⟨ini, la, hla⟩ : ∃ ini la, ms = ini ++ [la] := ⟨_, _, (List.dropLast_concat_getLast (List.length_pos_iff.mp (by omega) : ms ≠ [])).symm⟩
  have hm0 : m0 ∈ ms := by rw [hms]; exact List.mem_cons_self
  have i0 : index (msD ms) (.int 0) = some m0.d := by rw [hms]; simp [msD]
  have i1 : index (msD ms) (.int (-1)) = some la.d := by rw [hla]; simp only [msD, List.map_append]; exact ix_m1 _ _
  have t1 : sliceV (msD ms) none (some 1) = some (.tup [m0.d]) := by rw [hms]; exact slice_tup _ 1
  have t2 : sliceV (msD ms) none (some (-1)) = some (msD ini) := by rw [hla]; simp only [msD, List.map_append]; exact sl_m1 _ _
  have n0 : index m0.d (.int 0) = some (.str m0.nm) := by simp [Ma.d]
  have l0 : index la.d (.int 0) = some (.str la.nm) := by simp [Ma.d]
  have l2 : index la.d (.int 2) = some (.tup (la.own.map Pl.d)) := by simp [Ma.d]
  have c1 : binop .add (msD ms) (.tup [m0.d]) = some (msD (ms ++ [m0])) := by
    have := z_add_tup (x := ms.map Ma.d) (y := [m0.d]) (le_lim (m := 10) (by simp; omega) (by decide))
    simpa [msD] using this
  have hil : ini.length + 1 = ms.length := by rw [hla]; simp
  have c2 : ∀ x, binop .add (msD ini) (.tup [x]) = some (.tup (ini.map Ma.d ++ [x])) := fun x => z_add_tup (x := ini.map Ma.d) (y := [x]) (le_lim (m := 10) (by simp; omega) (by decide))
  have c3 : ∀ l : List D, l.length ≤ 2 → binop .add (slD sl) (.tup l) = some (.tup (sl.map Sl.d ++ l)) := fun l hl => z_add_tup (x := sl.map Sl.d) (y := l) (le_lim (m := 40) (by simp; omega) (by decide))
  have c0 : ∀ x y z : D, binop .add (.tup [x, y]) (.tup [z]) = some (.tup [x, y, z]) := fun _ _ _ => rfl
  have dm : ∀ s, der s (msD ms) = msD ms := fun s => rfl
  have d0 : ∀ s, der s m0.d = m0.d := fun s => rfl
  have dl : ∀ s, der s la.d = la.d := fun s => rfl
  have hst : startE 5 [.obj p.i, dkD ms sl] = [.val (.obj p.i), .val (.tup [msD ms, slD sl]), .non, .non, .non] := rfl
  have deck_pd : ∀ {x y : D}, Pd 9 x → Pd 9 y → ∃ n, n ≤ 64 ∧ Pd n (.tup [x, y]) := fun hx hy => ⟨10, by decide, .tup (.cons hx (.cons hy fun x hx => .nil hx))⟩
  have pdS : ∀ l : List D, (∀ x ∈ l, Pd 8 x) → Pd 9 (.tup (sl.map Sl.d ++ l)) := fun l hl => .tup fun x hx => by
    rcases List.mem_append.mp hx with hx | hx
    · obtain ⟨t, ht, rfl⟩ := List.mem_map.mp hx
      exact (h.s.ok t ht).pd.imp (by decide)
    · exact hl x hx
  have pm9 : Pd 9 (msD ms) := pm.imp (by decide)
  have ps9 : Pd 9 (slD sl) := ps.imp (by decide)
  -- the more slides
  have bk : 8 ≤ r → r < 14 → ∀ y : List D, (∀ (s : Sto), Rs.of (index (.lst [.tup [.tup [.str zz9, .str m0.nm, .tup [], .tup [], .tup [], .tup [], .int 0, .str []], .tup [.str zz9, .str m0.nm, .tup [], .tup [], .tup [], .tup [], .int 0, .str []]], .tup [.tup [.str zz9, .str nobody, .tup [], .tup [], .tup [], .tup [], .int 0, .str []]], .tup [.tup [.str zz9, .str m0.nm, .tup [], .tup [], .tup [], .tup [.tup [.str [97], .tup [.str [115, 108, 105, 100, 101], .str nobody]]], .int 0, .str []]], .tup [.tup [.str zz9, .str m0.nm, .tup [.tup [.str [97], .str [115, 105, 122, 101], .int 100]], .tup [], .tup [], .tup [], .int 0, .str []]], .tup [.tup [.str zz9, .str m0.nm, .tup [], .tup [], .tup [], .tup [], .bl true, .str []]], .tup [.lst [.str zz9, .str m0.nm, .tup [], .tup [], .tup [], .tup [], .int 0, .str []]]]) (.int ((r : Int) - 8))) s = .ok (.tup y) s) → y.length ≤ 2 → runB (callK G T (k + 1)) G 5 F__law_fault_free [.obj p.i, dkD ms sl] (p.st a q) = .ok (.tup [msD ms, .tup (sl.map Sl.d ++ y)]) (p.st a1 q1) := fun r8 r14 y hy hyl => by
    have j1 : ¬ (13 : Int) < (r : Int) := by omega
    have j2 : ¬ (r : Int) < 3 := by omega
    have j3 : ¬ (r : Int) < 7 := by omega
    have j4 : ((r : Int) == 7) = false := by simp; omega
    have g1 : ∀ (l l' : List D), l.length ≤ 20 → l'.length ≤ 20 → binop .add (.tup l) (.tup l') = some (.tup (l ++ l')) := fun l l' h1 h2 => z_add_tup (le_lim (m := 40) (by omega) (by decide))
    have g2 : ∀ l (n : Nat), sliceV (.tup l) none (some (n : Int)) = some (.tup (l.take n)) := slice_tup
    have g3 := fun l => g2 l 1
    have g4 := fun l => g2 l 5
    have g5 := fun l => g2 l 2
    have g6 := fun l => g2 l 6
    have g7 := fun l => sl_f l 2
    have g8 := fun l => sl_f l 3
    simp only [Int.cast_ofNat_Int] at g3 g4 g5 g6 g7 g8
    have c4 := c3 y hyl
    have cl : ∀ (l l' : List D), l.length ≤ 20 → l'.length ≤ 20 → catL (.lst l) (.lst l') = some (l ++ l') := fun l l' h1 h2 => by
      have : l.length + l'.length ≤ lim := le_lim (m := 40) (by omega) (by decide)
      simp [catL, this]
    unfold zz9 nobody at hy
    simp [runB, F__law_fault_free, hst, f1, j1, j2, j3, j4, i0, n0, dm, d0, lim, g1, g3, g4, g5, g6, g7, g8, cl, hy, c4]
  by_cases hr : 14 ≤ r
  · refine ⟨dkD ms sl, a1, q1, ?_, l1, u1, k1, .inl rfl⟩
    have j1 : (13 : Int) < r := by omega
    simp [runB, F__law_fault_free, hst, f1, j1]
    rfl
  have b14 : ∀ (t : Sl) (lk : List (List Nat × Tr)) (m : List Nat), (bareS m lk).d = .tup [.str zz9, .str m, .tup [], .tup [], .tup [], linksD lk, .int 0, .str []] := fun t lk m => rfl
  have okm0 := (h.m.ok m0 hm0).nm
  have bo : (bareS m0.nm []).ok := bare_ok okm0 (by decide) fun _ h => by cases h
  have bn : (bareS nobody []).ok := bare_ok nobody_ok (by decide) fun _ h => by cases h
  have bl : (bareS m0.nm [([97], .to nobody)]).ok := bare_ok okm0 (by decide) fun q hq => by
    rw [List.mem_singleton.mp hq]
    exact ⟨a_ok, nobody_ok⟩
  rcases (by omega : r = 0 ∨ r = 1 ∨ r = 2 ∨ r = 3 ∨ r = 4 ∨ r = 5 ∨ r = 6 ∨ r = 7 ∨ r = 8 ∨ r = 9 ∨ r = 10 ∨ r = 11 ∨ r = 12 ∨ r = 13) with rfl | rfl | rfl | rfl | rfl | rfl | rfl | rfl | rfl | rfl | rfl | rfl | rfl | rfl
  · exact ⟨.non, a1, q1, by simp [runB, F__law_fault_free, hst, f1, lim, show ∀ x y z : D, index (.lst [x, y, z]) (.int 0) = some x from fun _ _ _ => rfl], l1, u1, k1, .inr ⟨⟨0, by decide, .non⟩, nd_0⟩⟩
  · exact ⟨msD ms, a1, q1, by simp [runB, F__law_fault_free, hst, f1, lim, show ∀ x y z : D, index (.lst [x, y, z]) (.int 1) = some y from fun _ _ _ => rfl], l1, u1, k1, .inr ⟨⟨6, by decide, pm⟩, nd_1 ms h3⟩⟩
  · exact ⟨.lst [msD ms, slD sl], a1, q1, by simp [runB, F__law_fault_free, hst, f1, lim, show ∀ x y z : D, index (.lst [x, y, z]) (.int 2) = some z from fun _ _ _ => rfl], l1, u1, k1, .inr ⟨⟨10, by decide, .lst (.cons pm9 (.cons ps9 fun x hx => .nil hx))⟩, nd_2 _⟩⟩
  · exact ⟨.tup [msD ms, .lst (sl.map Sl.d)], a1, q1, by simp [runB, F__law_fault_free, hst, f1, lim, dm, t1, c1, slD, c0, show ∀ x y z w : D, index (.lst [x, y, z, w]) (.int 0) = some x from fun _ _ _ _ => rfl], l1, u1, k1, .inr ⟨deck_pd pm9 ((Pd.lst (n := 4) (.map fun t ht => (h.s.ok t ht).pd)).imp (by decide)), nd_3 _ _⟩⟩
  · exact ⟨.tup [.tup [], slD sl], a1, q1, by simp [runB, F__law_fault_free, hst, f1, lim, dm, t1, c1, slD, c0, show ∀ x y z w : D, index (.lst [x, y, z, w]) (.int 1) = some y from fun _ _ _ _ => rfl], l1, u1, k1, .inr ⟨deck_pd (.tup fun x hx => .nil hx) ps9, nd_4 _⟩⟩
  · refine ⟨.tup [msD (ms ++ [m0]), slD sl], a1, q1, by simp [runB, F__law_fault_free, hst, f1, lim, dm, t1, c1, slD, c0, show ∀ x y z w : D, index (.lst [x, y, z, w]) (.int 2) = some z from fun _ _ _ _ => rfl], l1, u1, k1, .inr ⟨deck_pd ((msD_pd fun m hm => ?_).imp (by decide)) ps9, nd_5 h (by omega) hm0⟩⟩
    rcases List.mem_append.mp hm with hm | hm
    · exact h.m.ok m hm
    · rw [List.mem_singleton.mp hm]; exact h.m.ok m0 hm0
  · exact ⟨.tup [msD ms, slD sl, .tup []], a1, q1, by simp [runB, F__law_fault_free, hst, f1, lim, dm, t1, c1, slD, c0, show ∀ x y z w : D, index (.lst [x, y, z, w]) (.int 3) = some w from fun _ _ _ _ => rfl], l1, u1, k1, .inr ⟨⟨10, by decide, .tup (.cons pm9 (.cons ps9 (.cons (.tup fun x hx => .nil hx) fun x hx => .nil hx)))⟩, nd_6 _ _ _⟩⟩
  · have hn7 := nd_7 (ms' := ini) (m := la) (sl := sl) (by rw [← hla]; exact h) (by rw [← hla]; exact m6)
    have hp7 : Pd 9 (msD (ini ++ [⟨la.nm, some nobody, la.own⟩])) := by
      refine (msD_pd fun m hm => ?_).imp (by decide)
      have hok := h.m.ok la (by rw [hla]; simp)
      rcases List.mem_append.mp hm with hm | hm
      · exact h.m.ok m (by rw [hla]; exact List.mem_append.mpr (.inl hm))
      · rw [List.mem_singleton.mp hm]
        exact ⟨hok.nm, fun o ho => by rw [← Option.some.inj ho]; exact nobody_ok, hok.len, hok.own, hok.nod⟩
    have e7 : runB (callK G T (k + 1)) G 5 F__law_fault_free [.obj p.i, dkD ms sl] (p.st a q) = .ok (.tup [msD (ini ++ [⟨la.nm, some nobody, la.own⟩]), slD sl]) (p.st a1 q1) := by
      have c7 := c2 (.tup [.str la.nm, .str nobody, .tup (la.own.map Pl.d)])
      have m7 : msD (ini ++ [⟨la.nm, some nobody, la.own⟩]) = .tup (ini.map Ma.d ++ [.tup [.str la.nm, .str nobody, .tup (la.own.map Pl.d)]]) := by
        unfold msD
        rw [List.map_append]
        rfl
      rw [m7]
      unfold nobody at c7 ⊢
      simp [runB, F__law_fault_free, hst, f1, lim, dm, t2, i1, l0, l2, dl, c7]
    exact ⟨_, a1, q1, e7, l1, u1, k1, .inr ⟨deck_pd hp7 ps9, hn7⟩⟩
  · have hn := nd_8 h (by omega) bo
    unfold slD at hn
    rw [List.map_append] at hn
    exact ⟨_, a1, q1, bk (by decide) (by decide) [(bareS m0.nm []).d, (bareS m0.nm []).d] (fun s => by kernel_rfl) (by simp), l1, u1, k1, .inr ⟨deck_pd pm9 (pdS _ (.cons (bo.pd.imp (by decide)) (.cons (bo.pd.imp (by decide)) fun x hx => .nil hx))), hn⟩⟩
  · have hn := nd_9 h (by omega) m6
    unfold slD at hn
    rw [List.map_append] at hn
    exact ⟨_, a1, q1, bk (by decide) (by decide) [(bareS nobody []).d] (fun s => by kernel_rfl) (by simp), l1, u1, k1, .inr ⟨deck_pd pm9 (pdS _ (.cons (bn.pd.imp (by decide)) fun x hx => .nil hx)), hn⟩⟩
  · have hn := nd_10 h (by omega) s6 hm0
    unfold slD at hn
    rw [List.map_append] at hn
    exact ⟨_, a1, q1, bk (by decide) (by decide) [(bareS m0.nm [([97], .to nobody)]).d] (fun s => by kernel_rfl) (by simp), l1, u1, k1, .inr ⟨deck_pd pm9 (pdS _ (.cons (bl.pd.imp (by decide)) fun x hx => .nil hx)), hn⟩⟩
  · exact ⟨_, a1, q1, bk (by decide) (by decide) [.tup [.str zz9, .str m0.nm, .tup [.tup [.str [97], .str [115, 105, 122, 101], .int 100]], .tup [], .tup [], .tup [], .int 0, .str []]] (fun s => by kernel_rfl) (by simp), l1, u1, k1, .inr ⟨deck_pd pm9 (pdS _ (.cons (.tup (.cons (.str _) (.cons (.str _) (.cons (.tup (.cons (.tup (.cons (.str _) (.cons (.str _) (.cons (.int _) fun x hx => .nil hx)))) fun x hx => .nil hx)) (.cons (.tup fun x hx => .nil hx) (.cons (.tup fun x hx => .nil hx) (.cons (.tup fun x hx => .nil hx) (.cons (.int _) (.cons (.str _) fun x hx => .nil hx))))))))) fun x hx => .nil hx)), nd_s h (by omega) fun k s => ns_1 k s okm0⟩⟩
  · exact ⟨_, a1, q1, bk (by decide) (by decide) [.tup [.str zz9, .str m0.nm, .tup [], .tup [], .tup [], .tup [], .bl true, .str []]] (fun s => by kernel_rfl) (by simp), l1, u1, k1, .inr ⟨deck_pd pm9 (pdS _ (.cons (.tup (.cons (.str _) (.cons (.str _) (.cons (.tup fun x hx => .nil hx) (.cons (.tup fun x hx => .nil hx) (.cons (.tup fun x hx => .nil hx) (.cons (.tup fun x hx => .nil hx) (.cons (.bl _) (.cons (.str _) fun x hx => .nil hx))))))))) fun x hx => .nil hx)), nd_s h (by omega) fun k s => ns_2 k s okm0⟩⟩
  · exact ⟨_, a1, q1, bk (by decide) (by decide) [.lst [.str zz9, .str m0.nm, .tup [], .tup [], .tup [], .tup [], .int 0, .str []]] (fun s => by kernel_rfl) (by simp), l1, u1, k1, .inr ⟨deck_pd pm9 (pdS _ (.cons (.lst (.cons (.str _) (.cons (.str _) (.cons (.tup fun x hx => .nil hx) (.cons (.tup fun x hx => .nil hx) (.cons (.tup fun x hx => .nil hx) (.cons (.tup fun x hx => .nil hx) (.cons (.int _) (.cons (.str _) fun x hx => .nil hx))))))))) fun x hx => .nil hx)), nd_s h (by omega) fun k s => ns_3 k s _⟩⟩
end Ms

set_option Elab.async false
set_option linter.all false
set_option autoImplicit false
set_option maxRecDepth 100000
set_option maxHeartbeats 400000
namespace Ms
/-! ## Law 61: what is no deed -/
def seg61 : Ss := match nxt (nxt (nxt (nxt (nxt F_law61)))) with
  | .frz _ (.cons a (.cons b _)) => .cons a (.cons b .nil)
  | _ => .nil
/-- words, numbers, the first things -/
def par61 : Ss := match F_law61 with
  | .cons _ (.cons _ (.cons a (.cons b _))) => .cons a (.cons b .nil)
  | _ => .nil
def e61 (v0 v1 v2 v3 v4 v5 v6 v7 v8 v9 v10 v11 : Slot) : Env := [v0, v1, v2, v3, v4, v5, v6, v7, v8, v9, v10, v11]
def pull (r : SRs) (i : Nat) : D := match r with
  | .nx e _ => (e.get i).getD .non
  | _ => .non
def words61 : D := pull (evSs (callK G T 0) G par61 (e61 .non .non .non .non .non .non .non .non .non .non .non .non) []) 3
def many61 : D := pull (evSs (callK G T 0) G par61 (e61 .non .non .non .non .non .non .non .non .non .non .non .non) []) 4
theorem par61_ok (k : Nat) (v0 v1 v2 : Slot) (s : Sto) : evSs (callK G T k) G par61 (e61 v0 v1 v2 .non .non .non .non .non .non .non .non .non) s = .nx (e61 v0 v1 v2 (.val words61) (.val many61) .non .non .non .non .non .non .non) s := by kernel_rfl
def beg61 : List D := [.tup [], .non, .int 3, .str [115, 101, 116], .tup [.tup []], .tup [.str []], .tup [.non, .str [97]], .lst [], .dct [], .tup [.int 1, .int 2, .int 3], .tup [.tup [.str [115, 101, 116]], .str [97]]]
def res61 : SRs := evSs (callK G T 0) G seg61 (e61 .non .non .non (.val words61) (.val many61) .non (.val (.lst beg61)) .non .non .non .non .non) []
def things61 : List D := match res61 with
  | .nx e _ => (e.getO 6).getD []
  | _ => []
def v7_61 : D := pull res61 7
def v8_61 : D := pull res61 8
theorem seg61_ok (k : Nat) (v0 v1 v2 v5 : Slot) (s : Sto) : evSs (callK G T k) G seg61 (e61 v0 v1 v2 (.val words61) (.val many61) v5 (.val (.lst beg61)) .non .non .non .non .non) s = .nx (e61 v0 v1 v2 (.val words61) (.val many61) v5 (.own things61) (.val v7_61) (.val v8_61) .non .non .non) s := by kernel_rfl
theorem things_len : things61.length = 181 := by kernel_rfl
theorem done_all (k : Nat) (x : D) (s : Sto) : things61.map (fun d => callK G T (k + 1) n_done [x, d] s) = things61.map (fun _ => .ex 1 (.dct []) s) := by kernel_rfl
theorem done_no (k : Nat) (x : D) (s : Sto) {d : D} (h : d ∈ things61) : callK G T (k + 1) n_done [x, d] s = .ex 1 (.dct []) s :=
  (List.map_inj_left.mp (done_all k x s)) d h
def dedW : List Nat := [100, 101, 101, 100]
def decW : List Nat := [100, 101, 99, 107]
theorem hd_deed : hdV G .wd 1 (.dct []) = some (.str dedW) := by kernel_rfl
theorem hd_deck : hdV G .wd 0 (.dct []) = some (.str decW) := by kernel_rfl
theorem deed_no (k : Nat) (s : Sto) {x d : D} (hx : callK G T (k + 2) n_must_be_deck [x] s = .ok .non s) (h : d ∈ things61) : callK G T (k + 4) n__law_done [x, d] s = .ok (.str dedW) s := by
  have e1 := done_no (k + 1) x s h
  have e2 : callK G T (k + 3) n_done_deed [x, d] s = .ex 1 (.dct []) s := by
    rw [call_eq T_done_deed rfl]
    simp [runB, F_done_deed, startE, hx, e1]
  rw [call_eq T__law_done rfl]
  simp [runB, F__law_done, startE, e2, hd_deed]
theorem deck_no (k : Nat) (s : Sto) {x d : D} (hx : callK G T (k + 2) n_must_be_deck [x] s = .ex 0 (.dct []) s) : callK G T (k + 4) n__law_done [x, d] s = .ok (.str decW) s := by
  have e2 : callK G T (k + 3) n_done_deed [x, d] s = .ex 0 (.dct []) s := by
    rw [call_eq T_done_deed rfl]
    simp [runB, F_done_deed, startE, hx]
  rw [call_eq T__law_done rfl]
  simp [runB, F__law_done, startE, e2, hd_deck]
theorem kept_no (k : Nat) (s : Sto) {x d : D} {fs : List (Nat × D)} {j : Nat} (hs : s[j]? = some (.ins 0 ((0, x) :: fs))) (h : d ∈ things61) : callK G T (k + 4) n__law_kept [.obj j, d] s = .ok (.str dedW) s := by
  have e1 := done_no (k + 1) x s h
  have e2 : callK G T (k + 3) n_Keeper_do [.obj j, d] s = .ex 1 (.dct []) s := by
    rw [call_eq T_Keeper_do rfl]
    simp [runB, F_Keeper_do, startE, fldOf, hs, lookF, e1]
  rw [call_eq T__law_kept rfl]
  simp [runB, F__law_kept, startE, noneAll, clsOf, hs, e2, hd_deed]
theorem kdeck_ok (k : Nat) (s : Sto) {x : D} {fs : List (Nat × D)} {j : Nat} (hs : s[j]? = some (.ins 0 ((0, x) :: fs))) : callK G T (k + 1) n_Keeper_deck [.obj j] s = .ok x s := by
  rw [call_eq T_Keeper_deck rfl]
  simp [runB, F_Keeper_deck, startE, fldOf, hs, lookF]
end Ms

set_option Elab.async false
set_option linter.all false
set_option autoImplicit false
set_option maxRecDepth 100000
set_option maxHeartbeats 400000
namespace Ms
theorem pen_new (k : Nat) (ns : List Int) (h : ns.length ≤ 63) : callK G T (k + 1) n__law_pen [.frz ns] [] = .ok (.obj 0) [penS ns 0 0] := by
  rw [call_eq T__law_pen rfl]
  have e : cut (ns.map D.int) none (some 63) = ns.map D.int := by
    have : ¬ ((63 : Int) < 0) := by decide
    simp only [cut, bnd, this, if_false, List.drop_zero, List.length_map, Nat.sub_zero]
    rw [List.take_of_length_le (by simp; omega)]
  have e2 : sliceL (.frz ns) none (some 63) = some (ns.map D.int) := by simp only [sliceL, e]
  have e3 : der ([] : Sto) (.frz ns) = .frz ns := rfl
  simp [runB, F__law_pen, startE, optInt, e3, e2, penS, lim]
theorem ss_two {C : Calls} {a b : S} {r : Ss} {e e' : Env} {s s' : Sto} (h : evSs C G (.cons a (.cons b .nil)) e s = .nx e' s') : evSs C G (.cons a (.cons b r)) e s = evSs C G r e' s' := by
  rw [evSs_cons_1] at h ⊢
  cases ha : evS C G a e s with
  | nx e1 s1 =>
    rw [ha, SRs.bind_nx, evSs_cons_1] at h
    rw [SRs.bind_nx, evSs_cons_1]
    cases hb : evS C G b e1 s1 with
    | nx e2 s2 =>
      rw [hb, SRs.bind_nx, evSs_nil_0] at h
      cases h
      rw [SRs.bind_nx]
    | _ => rw [hb] at h; cases h
  | _ => rw [ha] at h; cases h
theorem ss_st {C : Calls} {a : S} {r : Ss} {e e' : Env} {s s' : Sto} (h : evS C G a e s = .nx e' s') : evSs C G (.cons a r) e s = evSs C G r e' s' := by
  rw [evSs_cons_1, h, SRs.bind_nx]
theorem ss_frz {C : Calls} {i : Nat} {r : Ss} {e e' : Env} {s : Sto} (h : frzE i e = some e') : evSs C G (.frz i r) e s = evSs C G r e' s := by
  rw [evSs_frz_2, h]
def ke1 (d : D) (a b : Nat) : Cell := .ins 0 [(0, d), (1, .obj a), (2, .obj b)]
def pn0 (ns : List Int) : Pn := ⟨[penS ns 0 0], 0, ns, by simp⟩
def pnK (ns : List Int) (d : D) : Pn := ⟨[penS ns 0 0, ke1 d 2 3, .lst [], .lst []], 0, ns, by simp⟩
theorem mk_keeper (k : Nat) (ns : List Int) {x : D} (a q : Int) (hx : ∀ s, callK G T (k + 1) n_must_be_deck [x] s = .ok .non s) : mkC (callK G T (k + 2)) 0 133 [x] ((pn0 ns).st a q) = .ok (.obj 1) ((pnK ns x).st a q) := by
  unfold mkC
  have : callK G T (k + 2) 133 [.obj 1, x] [penS ns a q, .ins 0 []] = .ok .non [penS ns a q, ke1 x 2 3, .lst [], .lst []] := by
    rw [call_eq T_Keeper___init__ rfl]
    simp [runB, F_Keeper___init__, startE, hx, setFS, putF, ke1, lim]
  show (callK G T (k + 2) 133 [.obj 1, x] [penS ns a q, .ins 0 []]).bind _ = _
  rw [this]
  rfl
theorem pnK_at {ns : List Int} {d : D} (a q : Int) : ((pnK ns d).st a q)[1]? = some (.ins 0 [(0, d), (1, .obj 2), (2, .obj 3)]) := rfl
def body61 : Ss := match nxt (nxt (nxt (nxt (nxt F_law61)))) with
  | .frz _ r => (match nxt (nxt r) with
    | .frz _ r => loopB r
    | _ => .nil)
  | _ => .nil
def I61 (ns : List Int) (v0 : Slot) (dk : D) (_ : Nat) (e : Env) : Prop := ∃ v9 v10 v11 : Slot, e = e61 v0 (.val (.obj 0)) (.val dk) (.val words61) (.val many61) (.val (.obj 1)) (.val (.lst things61)) (.val v7_61) (.val v8_61) v9 v10 v11
theorem eqv_word : cmpop .ne (.str dedW) (.str dedW) = some false := by simp
theorem eqv_word2 : cmpop .ne (.str decW) (.str decW) = some false := by simp
theorem body61_ok (ns : List Int) (k : Nat) (v0 v9 v10 v11 : Slot) {ms : List Ma} {sl : List Sl} (h : GDeck ms sl) (h3 : ms.length ≤ 3) (h4 : sl.length ≤ 4) (m6 : ∀ m ∈ ms, m.nm.length ≠ 6) (s6 : ∀ t ∈ sl, t.nm.length ≠ 6) (j : Nat) :
    DrS (pnK ns (dkD ms sl)) 2 (evSs (callK G T (k + 20)) G body61 (e61 v0 (.val (.obj 0)) (.val (dkD ms sl)) (.val words61) (.val many61) (.val (.obj 1)) (.val (.lst things61)) (.val v7_61) (.val v8_61) v9 v10 v11)) (I61 ns v0 (dkD ms sl) j) := by
  intro a q ha hq hb
  obtain ⟨_, a1, q1, f1, l1, u1, k1, r, rfl, r1⟩ := dr_draw2 (pnK ns (dkD ms sl)) (k + 19) (m := 181) (by decide) (by decide) a q ha hq (by omega)
  have hr : r < things61.length := by rw [things_len]; omega
  have i1 := ix_nat hr
  have hmem := List.getElem_mem hr
  generalize things61[r] = d at i1 hmem
  obtain ⟨x, a2, q2, f2, l2, u2, k2, hx⟩ := fault_free_dr (pnK ns (dkD ms sl)) (k + 18) h h3 (by omega) m6 s6 a1 q1 (by omega) k1 (by omega)
  have g1 := deed_no (k + 16) ((pnK ns (dkD ms sl)).st a1 q1) (must_deck (k + 8) _ h) hmem
  have g2 := kept_no (k + 16) ((pnK ns (dkD ms sl)).st a1 q1) (pnK_at a1 q1) hmem
  have g3 := kdeck_ok (k + 19) ((pnK ns (dkD ms sl)).st a1 q1) (pnK_at a1 q1)
  have dp := dkD_pd h
  have n1 := ne_self dp (by decide)
  have hcl : noneAll 0 ((pnK ns (dkD ms sl)).st a1 q1) (.obj 1) = some () := rfl
  have hdk : ∀ s, der s (dkD ms sl) = dkD ms sl := fun s => rfl
  have e1 : things61.length = 181 := things_len
  have e2 : (pnK ns (dkD ms sl)).i = 0 := rfl
  rw [e2] at f1 f2
  have dW : decide (dedW.length ≤ lim) = true := by decide
  unfold dedW at g1 g2
  unfold body61 F_law61
  simp only [nxt, loopB]
  rcases hx with rfl | ⟨⟨n, hn, px⟩, hx⟩
  · refine ⟨e61 v0 (.val (.obj 0)) (.val (dkD ms sl)) (.val words61) (.val many61) (.val (.obj 1)) (.val (.lst things61)) (.val v7_61) (.val v8_61) v9 (.val d) (.val (dkD ms sl)), a2, q2, ?_, by omega, by omega, k2, _, _, _, rfl⟩
    simp [e61, e1, f1, i1, g1, g2, g3, hcl, hdk, n1, f2]
  · have g4 := deck_no (k + 16) ((pnK ns (dkD ms sl)).st a2 q2) (d := d) (hx.must (k + 8) _)
    have n2 := ne_ok px hn dp (by decide)
    have hdx : ∀ s, der s x = x := fun s => by
      cases x with
      | obj i => have := px.1; simp [D.plain] at this
      | _ => rfl
    unfold decW at g4
    refine ⟨e61 v0 (.val (.obj 0)) (.val (dkD ms sl)) (.val words61) (.val many61) (.val (.obj 1)) (.val (.lst things61)) (.val v7_61) (.val v8_61) v9 (.val d) (.val x), a2, q2, ?_, by omega, by omega, k2, _, _, _, rfl⟩
    cases hv : x.eqv (dkD ms sl) <;> simp [e61, e1, f1, i1, g1, g2, g3, hcl, hdk, hdx, n1, n2, f2, hv, g4]
theorem math61 (k : Nat) (ns : List Int) (h : ns.length ≤ 63) : ∃ s', callK G T (k + 41) n_law61 [.frz ns] [] = .ok (.bl true) s' := by
  obtain ⟨d, a1, q1, f1, l1, u1, k1, ms, sl, rfl, hd, h3, h4, m6, s6⟩ := deck_dr (pn0 ns) (k + 34) (m := 3) (n := 4) (by decide) (by decide) (by decide) 0 0 (by decide) (by decide) (by decide)
  have hfor := dr_for (p := pnK ns (dkD ms sl)) (tg := .name 9) (body := evSs (callK G T (k + 40)) G body61) (c := 2) (I := I61 ns (.val (.frz ns)) (dkD ms sl)) (by decide) (rngL 0 40) 0 (e61 (.val (.frz ns)) (.val (.obj 0)) (.val (dkD ms sl)) (.val words61) (.val many61) (.val (.obj 1)) (.val (.lst things61)) (.val v7_61) (.val v8_61) .non .non .non) ⟨_, _, _, rfl⟩ fun kk d env hk hI => by
    obtain ⟨v9, v10, v11, rfl⟩ := hI
    exact ⟨_, rfl, body61_ok ns (k + 20) _ _ _ _ hd h3 h4 m6 s6 _⟩
  obtain ⟨e, a2, q2, f2, l2, u2, k2, v9, v10, v11, rfl⟩ := hfor a1 q1 (by omega) k1 (by rw [rng_len]; unfold big; omega)
  refine ⟨(pnK ns (dkD ms sl)).st a2 q2, ?_⟩
  rw [call_eq T_law61 rfl]
  apply runB_rt
  have e1 := pen_new (k + 39) ns h
  have e2 := mk_keeper (k + 38) ns a1 q1 fun s => must_deck (k + 29) s hd
  have hst : startE 12 [.frz ns] = e61 (.val (.frz ns)) .non .non .non .non .non .non .non .non .non .non .non := rfl
  have hp : [penS ns 0 0] = (pn0 ns).st 0 0 := rfl
  have hi : (pn0 ns).i = 0 := rfl
  rw [hi] at f1
  rw [hst]
  have st1 : evS (callK G T (k + 40)) G (.set 1 (.call 200 (.cons (.v 0) .nil))) (e61 (.val (.frz ns)) .non .non .non .non .non .non .non .non .non .non .non) [] = .nx (e61 (.val (.frz ns)) (.val (.obj 0)) .non .non .non .non .non .non .non .non .non .non) ((pn0 ns).st 0 0) := by
    simp [e61, e1, hp]
  have st2 : evS (callK G T (k + 40)) G (.set 2 (.call 211 (.cons (.v 1) (.cons (.k (.int 3)) (.cons (.k (.int 4)) .nil))))) (e61 (.val (.frz ns)) (.val (.obj 0)) .non .non .non .non .non .non .non .non .non .non) ((pn0 ns).st 0 0) = .nx (e61 (.val (.frz ns)) (.val (.obj 0)) (.val (dkD ms sl)) .non .non .non .non .non .non .non .non .non) ((pn0 ns).st a1 q1) := by
    have f1' : callK G T (k + 40) 211 [.obj 0, .int 3, .int 4] ((pn0 ns).st 0 0) = .ok (dkD ms sl) ((pn0 ns).st a1 q1) := f1
    simp [e61, f1']
  unfold F_law61
  rw [ss_st st1, ss_st st2]
  refine (ss_two (par61_ok (k + 40) _ _ _ _)).trans ?_
  have st3 : evS (callK G T (k + 40)) G (.paro 5 6 (.mk 0 133 (.cons (.v 2) .nil)) (.lst (.cons (.tup .nil) (.cons (.k .non) (.cons (.k (.int 3)) (.cons (.k (.str [115, 101, 116])) (.cons (.tup (.cons (.tup .nil) .nil)) (.cons (.tup (.cons (.k (.str [])) .nil)) (.cons (.tup (.cons (.k .non) (.cons (.k (.str [97])) .nil))) (.cons (.fl (.lst .nil)) (.cons (.k (.dct [])) (.cons (.tup (.cons (.k (.int 1)) (.cons (.k (.int 2)) (.cons (.k (.int 3)) .nil)))) (.cons (.tup (.cons (.tup (.cons (.k (.str [115, 101, 116])) .nil)) (.cons (.k (.str [97])) .nil))) .nil))))))))))))) (e61 (.val (.frz ns)) (.val (.obj 0)) (.val (dkD ms sl)) (.val words61) (.val many61) .non .non .non .non .non .non .non) ((pn0 ns).st a1 q1) = .nx (e61 (.val (.frz ns)) (.val (.obj 0)) (.val (dkD ms sl)) (.val words61) (.val many61) (.val (.obj 1)) (.own beg61) .non .non .non .non .non) ((pnK ns (dkD ms sl)).st a1 q1) := by
    simp [e61, e2, lim, beg61]
  refine (ss_st st3).trans ?_
  refine (ss_frz rfl).trans ?_
  refine (ss_two (seg61_ok (k + 40) _ _ _ _ _)).trans ?_
  refine (ss_frz rfl).trans ?_
  have hr : rng1 (.int 40) = some (rngL 0 40) := rng1_of (by decide) (by decide)
  have st4 : evS (callK G T (k + 40)) G (.for_ (.name 9) (.rng1 (.k (.int 40))) body61) (e61 (.val (.frz ns)) (.val (.obj 0)) (.val (dkD ms sl)) (.val words61) (.val many61) (.val (.obj 1)) (.val (.lst things61)) (.val v7_61) (.val v8_61) .non .non .non) ((pnK ns (dkD ms sl)).st a1 q1) = .nx (e61 (.val (.frz ns)) (.val (.obj 0)) (.val (dkD ms sl)) (.val words61) (.val many61) (.val (.obj 1)) (.val (.lst things61)) (.val v7_61) (.val v8_61) v9 v10 v11) ((pnK ns (dkD ms sl)).st a2 q2) := by
    rw [evS_for_17, evIt_rng1_1, evE_k_1, Rs.bind_ok, hr, Rs.of_some, Rs.bindS_ok]
    exact f2
  refine (ss_st st4).trans ?_
  exact ss_ret (by rw [evE_k_1])
end Ms

set_option Elab.async false
set_option linter.all false
set_option autoImplicit false
set_option maxRecDepth 100000
set_option maxHeartbeats 8000000
open PySem PySem.W PySem.Calls PyProof.Rows
theorem PySem.Challenge.cw_mastershow_k61_what_is_no_deed_holds : PySem.Challenge.rw_mastershow_k61_what_is_no_deed.Holds := by
  w_on; o_law
  refine HandSHeadRun.head_any (r := OpenLaw.row PySem.Challenge.rw_mastershow_k61_what_is_no_deed) (q := Ms.L61.qv) (H := Ms.L61.hk) (ob := Ms.L61.ob) (M := 12000) (loose := Ms.L61.names) (d := HandSHeadRun.topDef (OpenLaw.row PySem.Challenge.rw_mastershow_k61_what_is_no_deed).prog Ms.L61.lawIx) (kwd := []) Ms.L61.ob_eq
    (by kernel_rfl) (fun s => by kernel_rfl) Ms.L61.run (by kernel_rfl) (by kernel_rfl) (by kernel_rfl) (by rfl) (by first | assumption | decide +kernel) (by decide +kernel) ⟨rfl, rfl, rfl, rfl, rfl, by decide +kernel⟩ ?hw ?hc
  case hw => w_witness2
  case hc =>
    refine Ms.walk_ofX (l := PySem.Challenge.rw_mastershow_k61_what_is_no_deed) (n := 63) (k := 4 * 41) (x := "script") (CX := fun w => L2N.CX Ms.L61.pr w) rfl (by decide) (by kernel_rfl) ⟨rfl, by decide, by decide⟩ ?F ?X
    case X =>
      rintro w H s e s' ⟨_, _, _, _, _, _, _, _, _, _, _, _, z⟩
      exact z.elim
    case F =>
      intro w mg fa h Y G hmg0
      obtain ⟨K, KX, c⟩ := Y
      have hmg : mg ("law" : PySem.Str) = some (.ref fa) := by
        have e : (HandSHeadRun.topDef (OpenLaw.row PySem.Challenge.rw_mastershow_k61_what_is_no_deed).prog Ms.L61.lawIx).name = ("law" : PySem.Str) := by kernel_rfl
        rw [← e]
        exact hmg0
      have std : ∀ base, K.In base → base.Ns mainGlobals mg → (∀ y ∈ Ms.L61.ld.tf, LamX.TabB base mg (He.cT K (y, none)).1 (He.cT K (y, none)).2) → Ms.Std Ms.L61.ld w h base mg K :=
        fun base _ _ tb => ⟨⟨c, Ms.L61.st, KX, G, Ms.L61.gd⟩, tb⟩
      refine ⟨K, KX, Ms.law_at (l := Ms.L61.ld) (k := 40) (lawF := 443) (d := Ms.L61.dLaw) rfl (fun base b1 b2 b3 => ?_) ⟨c, Ms.L61.st, KX, G, Ms.L61.gd⟩ rfl rfl rfl hmg (fun ns hl _ => Ms.math61 0 ns hl)⟩
      · have s := std base b1 b2 b3
        exact ⟨s, Ms.L61.fw_ok s, Ms.L61.word_ok s⟩
