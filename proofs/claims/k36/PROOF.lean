import PyProof.Rows.All
import Wide.All
import OpenK.AllK
import Wide.FinOn
import HandS.ForMost
import HandS.Exc
import HandS.ExcOwn
import HandS.WordsExc
import HandS.Defaults
import HandS.TupAny
import HandS.TupMul
import HandS.IsInst
import HandS.Wide
import HandS.Walk
import HandS.Zip
import KE.KSortedM
import HandS.Style
import HandS.Words
import PySem.Challenge.RW_samehowever_k36_whole_splitting_and_join
import KE.KStateDown
import Lean
import HandS.Ends
import HandS.More
import HandS.Head0
import HandS.Head1
import HandS.Head2
import HandS.HeadEnd
import HandS.HeadHook1
import HandS.HeadHook2
set_option Elab.async false
set_option linter.all false
set_option maxRecDepth 100000
section
set_option maxHeartbeats 4000000
/-! PvCore: plain data, the tree of draws, a small language, what it computes. -/
namespace PV
open PySem

/-- plain data; bor: a list of one's own, looked at; new: a list that nobody else holds -/
inductive D where
  | non | bl (b : Bool) | int (i : Int) | str (x : Str) | tup (xs : List D) | lst (xs : List D)
  | emp | exc (c : Nat) | sta | scr (ns : List Int) | bor (xs : List D) | new (xs : List D)

/-- what a run comes to: an answer, an error of a class, no answer, or a drawn number first -/
inductive T (a : Type) : Type where
  | ret (x : a) | err (c : Nat) | bad | draw (n : Int) (k : Int → T a)
namespace T
def bind {a b : Type} : T a → (a → T b) → T b
  | .ret x, f => f x
  | .err c, _ => .err c
  | .bad, _ => .bad
  | .draw n k, f => .draw n fun d => bind (k d) f
/-- whatever is drawn, with b draws left (a draw may cost one) -/
def All {a : Type} (P : Nat → a → Prop) (E : Nat → Nat → Prop) : T a → Nat → Prop
  | .ret x, b => P b x
  | .err c, b => E b c
  | .bad, _ => False
  | .draw n k, b => 0 < b ∧ ∀ d, 0 ≤ d → d < n → ∀ b', b ≤ b' + 1 → b' ≤ b → All P E (k d) b'
end T
instance : Monad T where
  pure := T.ret
  bind := T.bind
section
variable {a b c : Type}
theorem ret_bind (x : a) (f : a → T b) : (T.ret x >>= f) = f x := rfl
theorem pure_bind' (x : a) (f : a → T b) : ((pure x : T a) >>= f) = f x := rfl
theorem pure_ret (x : a) : (pure x : T a) = T.ret x := rfl
theorem err_bind (k : Nat) (f : a → T b) : ((T.err k : T a) >>= f) = T.err k := rfl
theorem bad_bind (f : a → T b) : ((T.bad : T a) >>= f) = T.bad := rfl
theorem draw_bind (n : Int) (k : Int → T a) (f : a → T b) : ((T.draw n k : T a) >>= f) = T.draw n fun d => k d >>= f := rfl
theorem bind_ret (t : T a) : (t >>= T.ret) = t := by
  show T.bind t T.ret = t
  induction t with
  | ret x => rfl
  | err c => rfl
  | bad => rfl
  | draw n k ih => exact congrArg (T.draw n) (funext ih)
theorem bind_assoc' (t : T a) (f : a → T b) (g : b → T c) : ((t >>= f) >>= g) = (t >>= fun x => f x >>= g) := by
  show T.bind (T.bind t f) g = T.bind t fun x => T.bind (f x) g
  induction t with
  | ret x => rfl
  | err c => rfl
  | bad => rfl
  | draw n k ih => exact congrArg (T.draw n) (funext ih)
theorem all_ret {P : Nat → a → Prop} {E : Nat → Nat → Prop} {x : a} {m : Nat} : (T.ret x).All P E m ↔ P m x := Iff.rfl
theorem all_bind {P : Nat → b → Prop} {E : Nat → Nat → Prop} {f : a → T b} {t : T a} {m : Nat} : (t >>= f).All P E m ↔ t.All (fun m x => (f x).All P E m) E m := by
  show (T.bind t f).All P E m ↔ _
  induction t generalizing m with
  | ret x => exact Iff.rfl
  | err c => exact Iff.rfl
  | bad => exact Iff.rfl
  | draw n k ih => exact ⟨fun h => ⟨h.1, fun d h0 h1 m' h2 h3 => (ih d).mp (h.2 d h0 h1 m' h2 h3)⟩, fun h => ⟨h.1, fun d h0 h1 m' h2 h3 => (ih d).mpr (h.2 d h0 h1 m' h2 h3)⟩⟩
theorem All.mono {P Q : Nat → a → Prop} {E F : Nat → Nat → Prop} {t : T a} {m : Nat} (h : t.All P E m) (hp : ∀ {m} x, P m x → Q m x) (he : ∀ {m} c, E m c → F m c) : t.All Q F m := by
  induction t generalizing m with
  | ret x => exact hp x h
  | err c => exact he c h
  | bad => exact h
  | draw n k ih => exact ⟨h.1, fun d h0 h1 m' h2 h3 => ih d (h.2 d h0 h1 m' h2 h3)⟩
end

/-! ### the language -/
inductive BOp | add | sub | mul | fdiv | mod | pow
inductive COp | lt | le | gt | ge | eq | ne | is | isn | inn | nin
/-- built-in calls -/
inductive Blt | abs | max | min | len | sum | all | any | sorted | list | tuple | int | isint | isbool | istup | islst | isstr
inductive Tg | nm (i : Nat) | tp (is : List Nat)
inductive X where
  | non | bl (b : Bool) | int (i : Int) | str (x : Str) | var (i : Nat) | con (x : Str) (i : Int)
  | bin (op : BOp) (a b : X) | neg (a : X) | cmp (op : COp) (a b : X) | chain (o p : COp) (a b c : X)
  | and (a b : X) | or (a b : X) | not (a : X) | ite (t a b : X)
  | tup (as : X) | lst (as : X) | nil | cons (a as : X)
  | idx (a i : X) | slc (a lo hi : X) | part (a : X) | nopart
  | call (f : Nat) (as : X) | callK (f : Nat) (perm : List Nat) (as : X) | blt (f : Blt) (as : X) | isk (f : Blt) (a : X)
  | comp (tg : Tg) (it cond elt : X) (own : List (Str × Nat)) | yes
  | cap (a : X) | rng1 (a : X) | rng2 (a b : X) | zip (a b : X) | enum (a : X)
inductive S where
  | nil | cons (s r : S)
  | asg (i : Nat) (e : X) | asgF (i : Nat) (e : X) | asgT (is : List Nat) (e : X) | par (is : List Nat) (es : X) | expr (e : X)
  | app (i : Nat) (e : X) | sset (i : Nat) (ix e : X)
  | iff (t : X) (a b : S) | for_ (tg : Tg) (it : X) (body : S) | while_ (t : X) (body : S)
  | ret (e : X) | retN | raise (c : Nat) | frz (i : Nat) | brk | cont | pass

/-! ### data: equality, order -/
mutual
def D.toPy : D → PyData
  | .non => .none | .bl b => .bool b | .int i => .int i | .str x => .str x
  | .tup xs => .tuple (D.toPys xs) | .lst xs => .list (D.toPys xs) | .bor xs => .list (D.toPys xs) | .new xs => .list (D.toPys xs)
  | .scr ns => .list (ns.map PyData.int)
  | .emp => .dict [] | .exc _ => .dict [] | .sta => .dict []
def D.toPys : List D → List PyData
  | [] => []
  | d :: ds => D.toPy d :: D.toPys ds
end
def okPy (d : D) : Bool := SeqAt.shaped d.toPy
def deq (a b : D) : T Bool := if okPy a && okPy b then .ret (PyData.eqv a.toPy b.toPy) else .bad
def flat : D → Bool
  | .non => true | .bl _ => true | .int _ => true | .str _ => true | _ => false
/-- a list's or tuple's items -/
def items : D → Option (List D)
  | .tup xs => some xs | .lst xs => some xs | .bor xs => some xs | .new xs => some xs | .scr ns => some (ns.map D.int) | _ => none
def intsD : List D → Option (List Int)
  | [] => some []
  | .int i :: ds => (intsD ds).map (i :: ·)
  | _ :: _ => none
def blsD : List D → Option (List Bool)
  | [] => some []
  | .bl i :: ds => (blsD ds).map (i :: ·)
  | _ :: _ => none
/-- stored: a new list is everybody's from now on; one's own can't be -/
def fz : D → T D
  | .new xs => .ret (.lst xs)
  | .bor _ => .bad
  | d => .ret d
def ofO {a : Type} : Option a → T a
  | some x => .ret x
  | none => .bad
def lim : Nat := 16777216
def mulOk (i j : Int) : Bool := decide (-(2 ^ 64) < i ∧ i < 2 ^ 64) || decide (-(2 ^ 64) < j ∧ j < 2 ^ 64)
/-- lexicographic < of lists of integers -/
def lexLt : List Int → List Int → Bool := HT.lexLt

def lenIf (n : Nat) (d : D) : T D := if n ≤ lim then .ret d else .bad
def addT : D → D → T D
  | .int i, .int j => .ret (.int (i + j))
  | .tup xs, .tup ys => lenIf (xs.length + ys.length) (.tup (xs ++ ys))
  | .lst xs, .lst ys => lenIf (xs.length + ys.length) (.new (xs ++ ys))
  | .new xs, .lst ys => lenIf (xs.length + ys.length) (.new (xs ++ ys))
  | .lst xs, .new ys => lenIf (xs.length + ys.length) (.new (xs ++ ys))
  | .new xs, .new ys => lenIf (xs.length + ys.length) (.new (xs ++ ys))
  | .bor xs, .new ys => lenIf (xs.length + ys.length) (.new (xs ++ ys))
  | .bor xs, .lst ys => lenIf (xs.length + ys.length) (.new (xs ++ ys))
  | _, _ => .bad
def subT : D → D → T D
  | .int i, .int j => .ret (.int (i - j))
  | _, _ => .bad
def mulT : D → D → T D
  | .int i, .int j => if mulOk i j = true then .ret (.int (i * j)) else .bad
  | .tup xs, .int k => if xs ≠ [] ∧ xs.length ≤ 1000 ∧ 2 ≤ k ∧ k ≤ 1000 then .ret (.tup (List.replicate k.toNat xs).flatten) else .bad
  | _, _ => .bad
def fdivT : D → D → T D
  | .int i, .int j => if 0 < j ∧ j < 2 ^ 200 then .ret (.int (i / j)) else .bad
  | _, _ => .bad
def modT : D → D → T D
  | .int i, .int j => if 0 < j then .ret (.int (i % j)) else .bad
  | _, _ => .bad
def powT : D → D → T D
  | .int i, .int j => if 0 ≤ j ∧ j ≤ 1000 ∧ i.natAbs < 2 ^ 64 then .ret (.int (i ^ j.toNat)) else .bad
  | _, _ => .bad
def binT : BOp → D → D → T D
  | .add => addT | .sub => subT | .mul => mulT | .fdiv => fdivT | .mod => modT | .pow => powT
def ltT : D → D → T Bool
  | .int i, .int j => .ret (decide (i < j))
  | .tup xs, .tup ys => match intsD xs, intsD ys with
    | some ns, some ms => .ret (lexLt ns ms)
    | _, _ => .bad
  | _, _ => .bad
def leT : D → D → T Bool
  | .int i, .int j => .ret (decide (i ≤ j))
  | _, _ => .bad
def gtT : D → D → T Bool
  | .int i, .int j => .ret (decide (j < i))
  | _, _ => .bad
def geT : D → D → T Bool
  | .int i, .int j => .ret (decide (j ≤ i))
  | _, _ => .bad
def isNon : D → T Bool
  | .non => .ret true
  | .bor _ => .bad | .new _ => .bad
  | _ => .ret false
def isT (a b : D) : T Bool := match b with
  | .non => isNon a
  | _ => .bad
def isnT (a b : D) : T Bool := isT a b >>= fun k => .ret (!k)
def innT (x ys : D) : T Bool := match items ys with
    | some ds => if flat x = true ∧ ds.all flat = true then .ret (ds.any fun y => PyData.eqv y.toPy x.toPy) else .bad
    | none => .bad
def ninT (x ys : D) : T Bool := innT x ys >>= fun k => .ret (!k)
def neT (a b : D) : T Bool := deq a b >>= fun c => .ret (!c)
def cmpT : COp → D → D → T Bool
  | .lt => ltT | .le => leT | .gt => gtT | .ge => geT | .eq => deq | .ne => neT | .is => isT | .isn => isnT | .inn => innT | .nin => ninT
/-- xs[i] -/
def atD (xs : List D) (i : Int) : Option D := L2.atI xs i
def idxT : D → D → T D
  | .tup xs, .int i => ofO (atD xs i)
  | .lst xs, .int i => ofO (atD xs i)
  | .bor xs, .int i => ofO (atD xs i)
  | .new xs, .int i => ofO (atD xs i)
  | _, _ => .bad
def cutD (xs : List D) (lo hi : Option Int) : List D := (xs.drop (HT.sIx xs.length 0 lo)).take (HT.sIx xs.length xs.length hi - HT.sIx xs.length 0 lo)
def slcT : D → Option Int → Option Int → T D
  | .tup xs, lo, hi => .ret (.tup (cutD xs lo hi))
  | .lst xs, lo, hi => .ret (.new (cutD xs lo hi))
  | .bor xs, lo, hi => .ret (.new (cutD xs lo hi))
  | .new xs, lo, hi => .ret (.new (cutD xs lo hi))
  | _, _, _ => .bad
def maxL : List Int → Option Int
  | [] => none
  | x :: xs => some (xs.foldl max x)
def minL : List Int → Option Int
  | [] => none
  | x :: xs => some (xs.foldl min x)
def insI (x : Int) : List Int → List Int
  | [] => [x]
  | y :: ys => if x ≤ y then x :: y :: ys else y :: insI x ys
def sortI : List Int → List Int
  | [] => []
  | x :: xs => insI x (sortI xs)
def seqL : D → Option (List D)
  | .lst xs => some xs | .bor xs => some xs | .new xs => some xs | _ => none
def seqI (d : D) : Option (List Int) := (seqL d).bind intsD
def seqB (d : D) : Option (List Bool) := (seqL d).bind blsD
def absB : List D → T D
  | [.int i] => .ret (.int (if i < 0 then -i else i))
  | _ => .bad
def maxB : List D → T D
  | [.int i, .int j] => .ret (.int (if j > i then j else i))
  | [d] => match (seqI d).bind maxL with
    | some m => .ret (.int m)
    | none => .bad
  | _ => .bad
def minB : List D → T D
  | [.int i, .int j] => .ret (.int (if j < i then j else i))
  | [d] => match (seqI d).bind minL with
    | some m => .ret (.int m)
    | none => .bad
  | _ => .bad
def lenB : List D → T D
  | [d] => match items d with
    | some ds => .ret (.int ds.length)
    | none => .bad
  | _ => .bad
def sumB : List D → T D
  | [d] => match (items d).bind intsD with
    | some ns => .ret (.int ns.sum)
    | none => .bad
  | _ => .bad
def allB : List D → T D
  | [d] => match seqB d with
    | some ns => .ret (.bl (ns.all id))
    | none => .bad
  | _ => .bad
def anyB : List D → T D
  | [d] => match seqB d with
    | some ns => .ret (.bl (ns.any id))
    | none => .bad
  | _ => .bad
def sortedB : List D → T D
  | [d] => match seqI d with
    | some ns => if ns.length < 64 then .ret (.new ((sortI ns).map D.int)) else .bad
    | none => .bad
  | _ => .bad
def listB : List D → T D
  | [d] => match items d with
    | some ds => .ret (.new ds)
    | none => .bad
  | _ => .bad
def tupleB : List D → T D
  | [d] => match items d with
    | some ds => .ret (.tup ds)
    | none => .bad
  | _ => .bad
def intB : List D → T D
  | [.int i] => .ret (.int i)
  | _ => .bad
def isKind (k : D → Option Bool) : List D → T D
  | [d] => match k d with
    | some b => .ret (.bl b)
    | none => .bad
  | _ => .bad
def kInt : D → Option Bool
  | .int _ => some true | .bl _ => some true | .non => some false | .str _ => some false | .tup _ => some false | .lst _ => some false | .emp => some false | _ => none
def kBool : D → Option Bool
  | .int _ => some false | .bl _ => some true | .non => some false | .str _ => some false | .tup _ => some false | .lst _ => some false | .emp => some false | _ => none
def kTup : D → Option Bool
  | .int _ => some false | .bl _ => some false | .non => some false | .str _ => some false | .tup _ => some true | .lst _ => some false | .emp => some false | _ => none
def kLst : D → Option Bool
  | .int _ => some false | .bl _ => some false | .non => some false | .str _ => some false | .tup _ => some false | .lst _ => some true | .emp => some false | _ => none
def kStr : D → Option Bool
  | .int _ => some false | .bl _ => some false | .non => some false | .str _ => some true | .tup _ => some false | .lst _ => some false | .emp => some false | _ => none
def bltT : Blt → List D → T D
  | .abs => absB | .max => maxB | .min => minB | .len => lenB | .sum => sumB | .all => allB | .any => anyB | .sorted => sortedB | .list => listB | .tuple => tupleB | .int => intB
  | .isint => isKind kInt | .isbool => isKind kBool | .istup => isKind kTup | .islst => isKind kLst | .isstr => isKind kStr

/-- put in another order -/
def permL {a : Type} : List Nat → List a → Option (List a)
  | [], _ => some []
  | i :: is, xs => match xs[i]?, permL is xs with
    | some x, some ys => some (x :: ys)
    | _, _ => none
def permD {a : Type} (perm : List Nat) (xs : List a) : Option (List a) := if xs.length = perm.length then permL perm xs else none
/-! ### the frame -/
inductive Sl | un | val (d : D) | own (xs : List D)
abbrev Env := List Sl
def getV (r : Env) (i : Nat) : T D := match r[i]? with
  | some (.val d) => .ret d
  | some (.own xs) => .ret (.bor xs)
  | _ => .bad
def wipeE (r : Env) : List Nat → Env
  | [] => r
  | v :: vs => (wipeE r vs).set v .un
/-- stored: a new list is one's own -/
def slO : D → Option Sl
  | .new xs => some (.own xs)
  | .bor _ => none
  | d => some (.val d)
def slOf (d : D) : T Sl := ofO (slO d)
def parT : List Nat → List D → Env → Option Env
  | [], [], r => some r
  | i :: is, d :: ds, r => match slO d with
    | some s => parT is ds (r.set i s)
    | none => none
  | _, _, _ => none
def setAll : List Nat → List D → Env → Option Env
  | [], [], r => some r
  | i :: is, d :: ds, r => setAll is ds (r.set i (.val d))
  | _, _, _ => none
def bindTg : Tg → D → Env → T Env
  | .nm i, d, r => .ret (r.set i (.val d))
  | .tp is, .tup ds, r => ofO (setAll is ds r)
  | _, _, _ => .bad
def rngI (lo hi : Int) : T (List D) := if decide (-(2 ^ 62) ≤ lo ∧ lo < 2 ^ 62 ∧ -(2 ^ 62) ≤ hi ∧ hi < 2 ^ 62 ∧ (hi - lo).toNat ≤ lim) then .ret ((List.range (hi - lo).toNat).map fun k => .int (lo + (k : Nat))) else .bad
/-- no error leaves a comprehension -/
def noErr {a : Type} : T a → T a
  | .ret x => .ret x
  | .err _ => .bad
  | .bad => .bad
  | .draw n k => .draw n fun d => noErr (k d)
theorem noErr_all {a : Type} {P : Nat → a → Prop} {E F : Nat → Nat → Prop} {t : T a} {m : Nat} (h : (noErr t).All P E m) : t.All P F m := by
  induction t generalizing m with
  | ret x => exact h
  | err c => exact h.elim
  | bad => exact h
  | draw n k ih => exact ⟨h.1, fun d h0 h1 m' h2 h3 => ih d (h.2 d h0 h1 m' h2 h3)⟩
def compL (f : D → T (Option D)) : List D → T (List D)
  | [] => .ret []
  | d :: ds => f d >>= fun o => compL f ds >>= fun r => .ret (match o with | some y => y :: r | none => r)
def frozen : D → Option (List D)
  | .tup xs => some xs | .lst xs => some xs | .new xs => some xs | .scr ns => some (ns.map D.int) | _ => none
def frozenL : D → Option (List D)
  | .lst xs => some xs | .new xs => some xs | _ => none
def enumD : Nat → List D → List D
  | _, [] => []
  | i, d :: ds => .tup [.int (i : Nat), d] :: enumD (i + 1) ds
def zipD : D → D → Option (List D)
  | .tup xs, .tup ys => some ((xs.zip ys).map fun p => .tup [p.1, p.2])
  | a, b => match frozenL a, frozenL b with
    | some xs, some ys => some ((xs.zip ys).map fun p => .tup [p.1, p.2])
    | _, _ => none

section
variable (call : Nat → List D → T D)
/-- what a term is: as a value, as a test, as arguments (stored; looked at), as a part of a slice, as what is walked -/
structure Sx where
  E : Env → T D
  B : Env → T Bool
  A : Env → T (List D)
  R : Env → T (List D)
  O : Env → T (Option Int)
  I : Env → T (List D)
def toB (v : D) : T Bool := match v with
  | .bl k => .ret k
  | _ => .bad
def badR {a : Type} : Env → T a := fun _ => .bad
def ofE (e : Env → T D) : Sx := ⟨e, fun r => e r >>= toB, badR, badR, badR, fun r => e r >>= fun v => ofO (frozen v)⟩
def negT (x : D) : T D := match x with
  | .int i => .ret (.int (-i))
  | _ => .bad
def notT (x : D) : T D := match x with
  | .bl b => .ret (.bl (!b))
  | _ => .bad
def andT (x : D) (t : T D) : T D := match x with
  | .bl true => t
  | .bl false => .ret (.bl false)
  | _ => .bad
def orT (x : D) (t : T D) : T D := match x with
  | .bl true => .ret (.bl true)
  | .bl false => t
  | _ => .bad
def partT (x : D) : T (Option Int) := match x with
  | .int i => .ret (some i)
  | _ => .bad
def rng1T (x : D) : T (List D) := match x with
  | .int j => rngI 0 j
  | _ => .bad
def rng2T (x y : D) : T (List D) := match x, y with
  | .int i, .int j => rngI i j
  | _, _ => .bad
def lenT (ds : List D) (d : D) : T D := if ds.length ≤ 1000 then .ret d else .bad
/-- a comprehension's turn -/
def compF (tg : Tg) (ws : List Nat) (b : Env → T Bool) (e : Env → T D) (r : Env) (d : D) : T (Option D) :=
  bindTg tg d (wipeE r ws) >>= fun r2 => b r2 >>= fun k => if k = true then e r2 >>= fun y => fz y >>= fun y => .ret (some y) else .ret none
def evs : X → Sx
  | .non => ofE fun _ => .ret .non
  | .bl b => ofE fun _ => .ret (.bl b)
  | .int i => ofE fun _ => .ret (.int i)
  | .str x => ofE fun _ => .ret (.str x)
  | .var i => ofE fun r => getV r i
  | .con _ i => ofE fun _ => .ret (.int i)
  | .bin op a b => ofE fun r => (evs a).E r >>= fun x => (evs b).E r >>= fun y => binT op x y
  | .neg a => ofE fun r => (evs a).E r >>= negT
  | .cmp op a b => ofE fun r => (evs a).E r >>= fun x => (evs b).E r >>= fun y => cmpT op x y >>= fun c => .ret (.bl c)
  | .chain o p a b c => ofE fun r => (evs a).E r >>= fun x => (evs b).E r >>= fun y => cmpT o x y >>= fun k => if k = true then (evs c).E r >>= fun z => cmpT p y z >>= fun k => .ret (.bl k) else .ret (.bl false)
  | .and a b => ⟨fun r => (evs a).E r >>= fun x => andT x ((evs b).E r), fun r => (evs a).B r >>= fun k => if k = true then (evs b).B r else .ret false, badR, badR, badR, badR⟩
  | .or a b => ⟨fun r => (evs a).E r >>= fun x => orT x ((evs b).E r), fun r => (evs a).B r >>= fun k => if k = true then .ret true else (evs b).B r, badR, badR, badR, badR⟩
  | .not a => ⟨fun r => (evs a).E r >>= notT, fun r => (evs a).B r >>= fun k => .ret (!k), badR, badR, badR, badR⟩
  | .ite t a b => ofE fun r => (evs t).B r >>= fun k => if k = true then (evs a).E r else (evs b).E r
  | .tup as => ofE fun r => (evs as).A r >>= fun ds => lenT ds (.tup ds)
  | .lst as => ofE fun r => (evs as).A r >>= fun ds => lenT ds (.new ds)
  | .nil => ⟨badR, badR, fun _ => .ret [], fun _ => .ret [], badR, badR⟩
  | .cons a as => ⟨badR, badR, fun r => (evs a).E r >>= fun x => fz x >>= fun x => (evs as).A r >>= fun xs => .ret (x :: xs), fun r => (evs a).E r >>= fun x => (evs as).R r >>= fun xs => .ret (x :: xs), badR, badR⟩
  | .idx a i => ofE fun r => (evs a).E r >>= fun x => (evs i).E r >>= fun y => idxT x y
  | .slc a lo hi => ofE fun r => (evs a).E r >>= fun x => (evs lo).O r >>= fun l => (evs hi).O r >>= fun h => slcT x l h
  | .part a => ⟨badR, badR, badR, badR, fun r => (evs a).E r >>= partT, badR⟩
  | .nopart => ⟨badR, badR, badR, badR, fun _ => .ret none, badR⟩
  | .call f as => ofE fun r => (evs as).A r >>= fun ds => call f ds
  | .callK f perm as => ofE fun r => (evs as).A r >>= fun ds => ofO (permD perm ds) >>= fun ds => call f ds
  | .blt f as => ofE fun r => (evs as).R r >>= fun ds => bltT f ds
  | .isk f a => ofE fun r => (evs a).E r >>= fun x => bltT f [x]
  | .comp tg it cond elt own => ofE fun r => (evs it).I r >>= fun ds => noErr (compL (compF tg (own.map (·.2)) (evs cond).B (evs elt).E r) ds) >>= fun ys => .ret (.new ys)
  | .yes => ⟨badR, fun _ => .ret true, badR, badR, badR, badR⟩
  | .cap a => ⟨badR, badR, badR, badR, badR, fun r => (evs a).I r >>= fun ds => if ds.length ≤ lim then .ret ds else .bad⟩
  | .rng1 a => ⟨badR, badR, badR, badR, badR, fun r => (evs a).E r >>= rng1T⟩
  | .rng2 a b => ⟨badR, badR, badR, badR, badR, fun r => (evs a).E r >>= fun x => (evs b).E r >>= fun y => rng2T x y⟩
  | .zip a b => ⟨badR, badR, badR, badR, badR, fun r => (evs a).E r >>= fun x => (evs b).E r >>= fun y => ofO (zipD x y)⟩
  | .enum a => ⟨badR, badR, badR, badR, badR, fun r => (evs a).E r >>= fun x => ofO ((frozenL x).map (enumD 0))⟩
def ev (x : X) (r : Env) : T D := (evs call x).E r
def evT (x : X) (r : Env) : T Bool := (evs call x).B r
def evA (x : X) (r : Env) : T (List D) := (evs call x).A r
def evR (x : X) (r : Env) : T (List D) := (evs call x).R r
def evO (x : X) (r : Env) : T (Option Int) := (evs call x).O r
def evI (x : X) (r : Env) : T (List D) := (evs call x).I r

/-! ### statements -/
inductive Fl | nx (r : Env) | rt (d : D) | bk (r : Env) | ct (r : Env)
def forL (set : D → Env → T Env) (body : Env → T Fl) : List D → Env → T Fl
  | [], r => .ret (.nx r)
  | d :: ds, r => set d r >>= fun r1 => body r1 >>= fun fl => match fl with
    | .nx r2 => forL set body ds r2
    | .ct r2 => forL set body ds r2
    | .bk r2 => .ret (.nx r2)
    | .rt v => .ret (.rt v)
def whileL (test : Env → T Bool) (body : Env → T Fl) : Nat → Env → T Fl
  | 0, _ => .bad
  | n + 1, r => test r >>= fun k => if k = true then body r >>= fun fl => match fl with
    | .nx r2 => whileL test body n r2
    | .ct r2 => whileL test body n r2
    | .bk r2 => .ret (.nx r2)
    | .rt v => .ret (.rt v) else .ret (.nx r)
variable (wh : Nat)
def ex : S → Env → T Fl
  | .nil, r => .ret (.nx r)
  | .cons s t, r => ex s r >>= fun fl => match fl with
    | .nx r2 => ex t r2
    | f => .ret f
  | .asg i e, r => ev call e r >>= fun d => slOf d >>= fun s => .ret (.nx (r.set i s))
  | .asgF i e, r => ev call e r >>= fun d => fz d >>= fun d => .ret (.nx (r.set i (.val d)))
  | .asgT is e, r => ev call e r >>= fun d => match d with
    | .tup ds => ofO (setAll is ds r) >>= fun r2 => .ret (.nx r2)
    | _ => .bad
  | .par is es, r => evR call es r >>= fun ds => ofO (parT is ds r) >>= fun r2 => .ret (.nx r2)
  | .expr e, r => ev call e r >>= fun _ => .ret (.nx r)
  | .app i e, r => match r[i]? with
    | some (.own xs) => if xs.length < lim then ev call e r >>= fun d => fz d >>= fun d => .ret (.nx (r.set i (.own (xs ++ [d])))) else .bad
    | _ => .bad
  | .sset i ix e, r => match r[i]? with
    | some (.own xs) => ev call e r >>= fun d => fz d >>= fun d => ev call ix r >>= fun k => match k with
      | .int k => match L2.ixN xs.length k with
        | some j => .ret (.nx (r.set i (.own (xs.set j d))))
        | none => .bad
      | _ => .bad
    | _ => .bad
  | .iff t a b, r => evT call t r >>= fun k => if k = true then ex a r else ex b r
  | .for_ tg it body, r => evI call it r >>= fun ds => forL (bindTg tg) (ex body) ds r
  | .while_ t body, r => whileL (evT call t) (ex body) wh r
  | .ret (.var i), r => match r[i]? with
    | some (.own xs) => .ret (.rt (.new xs))
    | some (.val d) => .ret (.rt d)
    | _ => .bad
  | .ret e, r => ev call e r >>= fun d => match d with
    | .bor _ => .bad
    | d => .ret (.rt d)
  | .retN, _ => .ret (.rt .non)
  | .raise c, _ => .err c
  | .frz i, r => match r[i]? with
    | some (.own xs) => .ret (.nx (r.set i (.val (.lst xs))))
    | some (.val d) => .ret (.nx r)
    | _ => .bad
  | .brk, r => .ret (.bk r)
  | .cont, r => .ret (.ct r)
  | .pass, r => .ret (.nx r)
end

/-! ### a program -/
structure Df where
  name : Str
  ps : List Str
  N : List Str
  body : S
def startE (N : List Str) (ds : List D) : Env := ds.map Sl.val ++ List.replicate (N.length - ds.length) Sl.un
def runD (call : Nat → List D → T D) (wh : Nat) (d : Df) (ds : List D) : T D :=
  if ds.length = d.ps.length then ex call wh d.body (startE d.N ds) >>= fun fl => match fl with
    | .rt v => .ret v
    | .nx _ => .ret .non
    | _ => .bad
  else .bad
/-- _law_draw -/
def drawP : List D → T D
  | [.sta, .int k] => if decide (0 < k ∧ k < 2 ^ 200) then .draw k fun d => .ret (.int d) else .bad
  | _ => .bad
abbrev Tab := List (Nat × Df)
def callF (P : Tab) (wh : Nat) : Nat → Nat → List D → T D
  | 0, _, _ => .bad
  | n + 1, 0, ds => if n = 0 then .bad else drawP ds
  | n + 1, k + 1, ds => match P.lookup (k + 1) with
    | some d => runD (callF P wh n) wh d ds
    | none => .bad
end PV
end
section
set_option maxHeartbeats 4000000
/-! PvS1: how plain data lies in the heap; operators. -/
namespace PV
open PySem PySem.Spec PyProof.Rows L2

/-- what is fixed through a law -/
structure G where
  P : Program
  w : World
  K : PySem.W.Frag
  mg : Str → Option Value
  base : Heap
  F : Addr → Prop
  st : Addr
  good : Hp → Prop
  cad : Nat → Addr
  bud : Hp → Nat
  gob : ∀ H H', good H → (∀ a, F a → H' a = H a) → bud H' = bud H
  gof : ∀ H H', good H → (∀ a, F a → H' a = H a) → good H'
  gff : ∀ H a, good H → F a → ∃ o, H a = some o
variable {g : G}
abbrev Sub (Z H : Hp) : Prop := ∀ a o, Z a = some o → H a = some o
mutual
inductive Rep (g : G) (Z : Hp) : V → D → Prop
  | non : Rep g Z .non .non
  | bl (b : Bool) : Rep g Z (.bl b) (.bl b)
  | int (i : Int) : Rep g Z (.int i) (.int i)
  | str (x : Str) : Rep g Z (.str x) (.str x)
  | tup {a : Addr} {vs : List V} {ds : List D} : Z a = some (.tup vs) → vs.length ≤ sizeLine → Reps g Z vs ds → Rep g Z (.ref a) (.tup ds)
  | lst {a : Addr} {vs : List V} {ds : List D} : Z a = some (.lst vs) → vs.length ≤ sizeLine → Reps g Z vs ds → Rep g Z (.ref a) (.lst ds)
  | emp {a : Addr} : Z a = some (.dK []) → Rep g Z (.ref a) .emp
  | scr {a : Addr} {ns : List Int} : SqL g.K Z a (ns.map V.int) → ns.length ≤ 63 → Rep g Z (.ref a) (.scr ns)
  | sta : Rep g Z (.ref g.st) .sta
inductive Reps (g : G) (Z : Hp) : List V → List D → Prop
  | nil : Reps g Z [] []
  | cons {v : V} {vs : List V} {d : D} {ds : List D} : Rep g Z v d → Reps g Z vs ds → Reps g Z (v :: vs) (d :: ds)
end
theorem sq_sub {K : PySem.W.Frag} {Z H : Hp} {a : Addr} {xs : List V} (e : Sub Z H) (h : SqL K Z a xs) : SqL K H a xs := by
  rcases h with (h | ⟨o, h⟩) | h
  · exact .inl (.inl (e _ _ h))
  · exact .inl (.inr ⟨o, e _ _ h⟩)
  · exact .inr h
mutual
theorem Rep.mono {Z Z' : Hp} (e : Sub Z Z') : ∀ {v : V} {d : D}, Rep g Z v d → Rep g Z' v d
  | _, _, .non => .non
  | _, _, .bl b => .bl b
  | _, _, .int i => .int i
  | _, _, .str x => .str x
  | _, _, .tup h l r => .tup (e _ _ h) l (Reps.mono e r)
  | _, _, .lst h l r => .lst (e _ _ h) l (Reps.mono e r)
  | _, _, .emp h => .emp (e _ _ h)
  | _, _, .scr h l => .scr (sq_sub e h) l
  | _, _, .sta => .sta
theorem Reps.mono {Z Z' : Hp} (e : Sub Z Z') : ∀ {vs : List V} {ds : List D}, Reps g Z vs ds → Reps g Z' vs ds
  | _, _, .nil => .nil
  | _, _, .cons r t => .cons (Rep.mono e r) (Reps.mono e t)
end
theorem Reps.length {Z : Hp} : ∀ {vs : List V} {ds : List D}, Reps g Z vs ds → vs.length = ds.length
  | _, _, .nil => rfl
  | _, _, .cons _ t => congrArg Nat.succ (Reps.length t)
theorem Reps.append {Z : Hp} : ∀ {vs ws : List V} {ds es : List D}, Reps g Z vs ds → Reps g Z ws es → Reps g Z (vs ++ ws) (ds ++ es)
  | _, _, _, _, .nil, s => s
  | _, _, _, _, .cons r t, s => .cons r (Reps.append t s)
theorem Reps.take {Z : Hp} : ∀ {vs : List V} {ds : List D} (n : Nat), Reps g Z vs ds → Reps g Z (vs.take n) (ds.take n)
  | _, _, 0, _ => .nil
  | _, _, _ + 1, .nil => .nil
  | _, _, n + 1, .cons r t => .cons r (Reps.take n t)
theorem Reps.drop {Z : Hp} : ∀ {vs : List V} {ds : List D} (n : Nat), Reps g Z vs ds → Reps g Z (vs.drop n) (ds.drop n)
  | _, _, 0, r => r
  | _, _, _ + 1, .nil => .nil
  | _, _, n + 1, .cons _ t => Reps.drop n t
theorem Reps.get {Z : Hp} : ∀ {vs : List V} {ds : List D} {i : Nat} {d : D}, Reps g Z vs ds → ds[i]? = some d → ∃ v, vs[i]? = some v ∧ Rep g Z v d
  | _, _, _, _, .nil, e => by simp at e
  | _, _, 0, _, .cons r _, e => by simp at e; subst e; exact ⟨_, rfl, r⟩
  | _, _, i + 1, d, .cons _ t, e => by
    obtain ⟨v, h1, h2⟩ := Reps.get (i := i) (d := d) t (by simpa using e)
    exact ⟨v, by simpa using h1, h2⟩
theorem Reps.set {Z : Hp} {v : V} {d : D} (r : Rep g Z v d) : ∀ {vs : List V} {ds : List D} (i : Nat), Reps g Z vs ds → Reps g Z (vs.set i v) (ds.set i d)
  | _, _, _, .nil => .nil
  | _, _, 0, .cons _ t => .cons r t
  | _, _, i + 1, .cons q t => .cons q (Reps.set r i t)
theorem Reps.rep {Z : Hp} {vs : List V} {ds : List D} (h : Reps g Z vs ds) : ∀ k : Nat, Reps g Z (List.replicate k vs).flatten (List.replicate k ds).flatten
  | 0 => .nil
  | k + 1 => by
    rw [List.replicate_succ, List.replicate_succ, List.flatten_cons, List.flatten_cons]
    exact h.append (Reps.rep h k)
theorem Reps.intsI {Z : Hp} : ∀ {vs : List V} {ds : List D} {ns : List Int}, Reps g Z vs ds → intsD ds = some ns → vs = ns.map V.int
  | _, _, ns, .nil, e => by cases e; rfl
  | _, d :: ds, ns, .cons r t, e => by
    cases d <;> simp [intsD] at e
    rename_i i
    obtain ⟨ms, h1, h2⟩ := e
    subst h2
    cases r
    rw [List.map_cons, Reps.intsI t h1]
theorem Reps.blsI {Z : Hp} : ∀ {vs : List V} {ds : List D} {ns : List Bool}, Reps g Z vs ds → blsD ds = some ns → vs = ns.map V.bl
  | _, _, ns, .nil, e => by cases e; rfl
  | _, d :: ds, ns, .cons r t, e => by
    cases d <;> simp [blsD] at e
    rename_i i
    obtain ⟨ms, h1, h2⟩ := e
    subst h2
    cases r
    rw [List.map_cons, Reps.blsI t h1]
theorem Reps.ofInts {Z : Hp} : ∀ (ns : List Int), Reps g Z (ns.map V.int) (ns.map D.int)
  | [] => .nil
  | n :: ns => .cons (.int n) (Reps.ofInts ns)

/-- from one moment to a later one -/
structure Step (g : G) (Z H Z' H' : Hp) : Prop where
  z : Sub Z Z'
  zh : Sub Z' H'
  h : ∀ a o, H a = some o → ¬ g.F a → H' a = some o
  new : ∀ a o, Z' a = some o → Z a = some o ∨ H a = none
  zf : ∀ a, g.F a → Z' a = none
  good : g.good H'
structure Pre (g : G) (Z H : Hp) : Prop where
  zh : Sub Z H
  zf : ∀ a, g.F a → Z a = none
  good : g.good H
theorem Step.pre {Z H Z' H' : Hp} (s : Step g Z H Z' H') : Pre g Z' H' := ⟨s.zh, s.zf, s.good⟩
theorem Step.refl {Z H : Hp} (p : Pre g Z H) : Step g Z H Z H := ⟨fun _ _ h => h, p.zh, fun _ _ h _ => h, fun _ _ h => .inl h, p.zf, p.good⟩
theorem none_or {H : Hp} {a : Addr} : H a = none ∨ ∃ o, H a = some o := by
  cases H a with
  | none => exact .inl rfl
  | some o => exact .inr ⟨o, rfl⟩
theorem Step.trans {Z H Z1 H1 Z2 H2 : Hp} (s : Step g Z H Z1 H1) (t : Step g Z1 H1 Z2 H2) : Step g Z H Z2 H2 where
  z := fun a o h => t.z a o (s.z a o h)
  zh := t.zh
  h := fun a o h f => t.h a o (s.h a o h f) f
  new := fun a o h => by
    rcases t.new a o h with q | q
    · exact s.new a o q
    · rcases none_or (H := H) (a := a) with e | ⟨u, e⟩
      · exact .inr e
      · by_cases f : g.F a
        · rw [t.zf a f] at h; cases h
        · rw [s.h a u e f] at q; cases q
  zf := t.zf
  good := t.good
theorem Pre.nF {Z H : Hp} (p : Pre g Z H) {a : Addr} (h : H a = none) : ¬ g.F a := fun f => by
  obtain ⟨o, e⟩ := g.gff H a p.good f
  rw [h] at e; cases e
theorem Pre.nZ {Z H : Hp} (p : Pre g Z H) {a : Addr} (h : H a = none) : Z a = none := by
  rcases none_or (H := Z) (a := a) with e | ⟨u, e⟩
  · exact e
  · rw [p.zh a u e] at h; cases h
theorem sub_new {Z : Hp} {a : Addr} {o : HO} (h : Z a = none) : Sub Z (upd Z a o) := fun b u e => by
  rw [upd_ne (ne_of_none e h)]
  exact e
theorem bud_upd {Z H : Hp} (p : Pre g Z H) {a : Addr} {o : HO} (h : ¬ g.F a) : g.bud (upd H a o) = g.bud H := g.gob H _ p.good fun b f => upd_ne (a := a) (b := b) fun e => h (by rw [← e]; exact f)
theorem good_upd {Z H : Hp} (p : Pre g Z H) {a : Addr} {o : HO} (h : ¬ g.F a) : g.good (upd H a o) := g.gof H _ p.good fun b f => upd_ne (a := a) (b := b) fun e => h (by rw [← e]; exact f)
/-- a new object, nobody's -/
theorem Step.newH {Z H : Hp} (p : Pre g Z H) {a : Addr} {o : HO} (h : H a = none) : Step g Z H Z (upd H a o) :=
  ⟨fun _ _ e => e, fun b u e => sub_new h b u (p.zh b u e), fun b u e _ => sub_new h b u e, fun _ _ e => .inl e, p.zf, good_upd p (p.nF h)⟩
/-- a new object, everybody's -/
theorem Step.newZ {Z H : Hp} (p : Pre g Z H) {a : Addr} {o : HO} (h : H a = none) : Step g Z H (upd Z a o) (upd H a o) := by
  refine ⟨sub_new (p.nZ h), fun b u e => ?_, fun b u e _ => sub_new h b u e, fun b u e => ?_, fun b f => ?_, good_upd p (p.nF h)⟩
  · by_cases hb : b = a
    · subst hb; rw [upd_same] at e ⊢; exact e
    · rw [upd_ne hb] at e ⊢; exact p.zh b u e
  · by_cases hb : b = a
    · subst hb; exact .inr h
    · rw [upd_ne hb] at e; exact .inl e
  · rw [upd_ne (a := a) (b := b) fun e => p.nF h (by rw [← e]; exact f)]
    exact p.zf b f
/-- a list that was new becomes everybody's -/
theorem Step.freeze {Z H Z' H' : Hp} (s : Step g Z H Z' H') {a : Addr} {o : HO} (h : H a = none) (h' : H' a = some o) (hz : Z' a = none) (nf : ¬ g.F a) : Step g Z H (upd Z' a o) H' := by
  refine ⟨fun b u e => sub_new hz b u (s.z b u e), fun b u e => ?_, s.h, fun b u e => ?_, fun b f => ?_, s.good⟩
  · by_cases hb : b = a
    · subst hb; rw [upd_same] at e; rw [h']; exact e
    · rw [upd_ne hb] at e; exact s.zh b u e
  · by_cases hb : b = a
    · subst hb; exact .inr h
    · rw [upd_ne hb] at e; exact s.new b u e
  · rw [upd_ne (a := a) (b := b) fun e => nf (by rw [← e]; exact f)]
    exact s.zf b f

/-- a value that was reckoned since H -/
def RepR (g : G) (H Z' H' : Hp) (v : V) : D → Prop
  | .bor xs => ∃ a vs, v = .ref a ∧ H' a = some (.lst vs) ∧ vs.length ≤ sizeLine ∧ ¬ g.F a ∧ Z' a = none ∧ Reps g Z' vs xs
  | .new xs => ∃ a vs, v = .ref a ∧ H' a = some (.lst vs) ∧ vs.length ≤ sizeLine ∧ ¬ g.F a ∧ Z' a = none ∧ H a = none ∧ Reps g Z' vs xs
  | .non => Rep g Z' v .non
  | .bl b => Rep g Z' v (.bl b)
  | .int i => Rep g Z' v (.int i)
  | .str x => Rep g Z' v (.str x)
  | .tup xs => Rep g Z' v (.tup xs)
  | .lst xs => Rep g Z' v (.lst xs)
  | .emp => Rep g Z' v .emp
  | .exc c => Rep g Z' v (.exc c)
  | .sta => Rep g Z' v .sta
  | .scr ns => Rep g Z' v (.scr ns)
theorem RepR.of {H Z' H' : Hp} {v : V} {d : D} (h : Rep g Z' v d) : RepR g H Z' H' v d := by
  cases d <;> first | exact h | cases h
theorem RepR.step {H Z1 H1 Z2 H2 : Hp} {v : V} {d : D} (r : RepR g H Z1 H1 v d) (s : Step g Z1 H1 Z2 H2) : RepR g H Z2 H2 v d := by
  have nz : ∀ a o, H1 a = some o → Z1 a = none → Z2 a = none := fun a o h hz => by
    rcases none_or (H := Z2) (a := a) with e | ⟨u, e⟩
    · exact e
    · rcases s.new a u e with q | q
      · rw [hz] at q; cases q
      · rw [h] at q; cases q
  cases d <;> first
    | exact Rep.mono s.z r
    | (obtain ⟨a, vs, rfl, h1, h2, h3, h4, h5, h6⟩ := r; exact ⟨a, vs, rfl, s.h _ _ h1 h3, h2, h3, nz _ _ h1 h4, h5, h6.mono s.z⟩)
    | (obtain ⟨a, vs, rfl, h1, h2, h3, h4, h6⟩ := r; exact ⟨a, vs, rfl, s.h _ _ h1 h3, h2, h3, nz _ _ h1 h4, h6.mono s.z⟩)
theorem RepR.back {H Z H1 Z1 Z2 H2 : Hp} {v : V} {d : D} (s : Step g Z H Z1 H1) (r : RepR g H1 Z2 H2 v d) : RepR g H Z2 H2 v d := by
  cases d <;> first
    | exact r
    | (obtain ⟨a, vs, rfl, h1, h2, h3, h4, h5, h6⟩ := r
       refine ⟨a, vs, rfl, h1, h2, h3, h4, ?_, h6⟩
       rcases none_or (H := H) (a := a) with e | ⟨u, e⟩
       · exact e
       · rw [s.h _ _ e h3] at h5; cases h5)
/-- stored -/
theorem fz_ok {Z H Z' H' : Hp} {v : V} {d : D} {P : Nat → D → Prop} {E : Nat → Nat → Prop} {m : Nat} (s : Step g Z H Z' H') (r : RepR g H Z' H' v d) (h : (fz d).All P E m) : ∃ d' Z2, P m d' ∧ Step g Z H Z2 H' ∧ Sub Z' Z2 ∧ Rep g Z2 v d' := by
  cases d <;> first
    | exact ⟨_, Z', h, s, fun _ _ e => e, r⟩
    | exact h.elim
    | (obtain ⟨a, vs, rfl, h1, h2, h3, h4, h5, h6⟩ := r
       exact ⟨_, upd Z' a (.lst vs), h, s.freeze h5 h1 h4 h3, sub_new h4, .lst upd_same h2 (h6.mono (sub_new h4))⟩)
/-- what stands behind -/
def Post (g : G) (Z H : Hp) (Q : VK) (m : Nat) (d : D) : Prop := ∀ v Z' H', Step g Z H Z' H' → g.bud H' = m → RepR g H Z' H' v d → Q v H'
def PostE (g : G) (Z H : Hp) (W : Nat → Hp → Prop) (m : Nat) (c : Nat) : Prop := ∀ Z' H', Step g Z H Z' H' → g.bud H' = m → W c H'
theorem Post.shift {Z H Z1 H1 : Hp} {Q : VK} {d : D} {m : Nat} (s : Step g Z H Z1 H1) (h : Post g Z H Q m d) : Post g Z1 H1 Q m d := fun v Z' H' t e r => h v Z' H' (s.trans t) e (r.back s)
theorem PostE.shift {Z H Z1 H1 : Hp} {W : Nat → Hp → Prop} {c : Nat} {m : Nat} (s : Step g Z H Z1 H1) (h : PostE g Z H W m c) : PostE g Z1 H1 W m c := fun Z' H' t e => h Z' H' (s.trans t) e
/-- the answer is there -/
theorem Post.now {Z H : Hp} {Q : VK} {d : D} {v : V} (p : Pre g Z H) (h : Post g Z H Q (g.bud H) d) (r : Rep g Z v d) : Q v H := h v Z H (.refl p) rfl (.of r)
theorem Post.newL {Z H : Hp} {Q : VK} {ds : List D} {vs : List V} (p : Pre g Z H) (h : Post g Z H Q (g.bud H) (.new ds)) (r : Reps g Z vs ds) (hl : vs.length ≤ sizeLine) {a : Addr} (ha : H a = none) : Q (.ref a) (upd H a (.lst vs)) :=
  h _ Z _ (.newH p ha) (bud_upd p (p.nF ha)) ⟨a, vs, rfl, upd_same, hl, p.nF ha, p.nZ ha, ha, r⟩
theorem Post.newT {Z H : Hp} {Q : VK} {ds : List D} {vs : List V} (p : Pre g Z H) (h : Post g Z H Q (g.bud H) (.tup ds)) (r : Reps g Z vs ds) (hl : vs.length ≤ sizeLine) {a : Addr} (ha : H a = none) : Q (.ref a) (upd H a (.tup vs)) :=
  h _ (upd Z a (.tup vs)) _ (.newZ p ha) (bud_upd p (p.nF ha)) (.of (.tup upd_same hl (r.mono (sub_new (p.nZ ha)))))

/-- a list or a tuple is to be read -/
theorem RepR.seq {H0 Z H : Hp} {v : V} {d : D} {ds : List D} (p : Pre g Z H) (r : RepR g H0 Z H v d) (h : items d = some ds) : ∃ a vs, v = .ref a ∧ (SqL g.K H a vs ∨ SqT g.K H a vs) ∧ vs.length ≤ sizeLine ∧ Reps g Z vs ds := by
  cases d <;> simp [items] at h
  · subst h; cases r with | tup h1 h2 h3 => exact ⟨_, _, rfl, .inr (.of (p.zh _ _ h1)), h2, h3⟩
  · subst h; cases r with | lst h1 h2 h3 => exact ⟨_, _, rfl, .inl (.of (p.zh _ _ h1)), h2, h3⟩
  · subst h; cases r with | scr h1 h2 => exact ⟨_, _, rfl, .inl (sq_sub p.zh h1), by rw [List.length_map, sizeLine_eq]; omega, Reps.ofInts _⟩
  · subst h; obtain ⟨a, vs, rfl, h1, h2, h3, h4, h5⟩ := r; exact ⟨a, vs, rfl, .inl (.of h1), h2, h5⟩
  · subst h; obtain ⟨a, vs, rfl, h1, h2, h3, h4, h5, h6⟩ := r; exact ⟨a, vs, rfl, .inl (.of h1), h2, h6⟩
theorem RepR.lst {H0 Z H : Hp} {v : V} {d : D} {ds : List D} (p : Pre g Z H) (r : RepR g H0 Z H v d) (h : seqL d = some ds) : ∃ a vs, v = .ref a ∧ H a = some (.lst vs) ∧ vs.length ≤ sizeLine ∧ Reps g Z vs ds := by
  cases d <;> simp [seqL] at h
  · subst h; cases r with | lst h1 h2 h3 => exact ⟨_, _, rfl, p.zh _ _ h1, h2, h3⟩
  · subst h; obtain ⟨a, vs, rfl, h1, h2, h3, h4, h5⟩ := r; exact ⟨a, vs, rfl, h1, h2, h5⟩
  · subst h; obtain ⟨a, vs, rfl, h1, h2, h3, h4, h5, h6⟩ := r; exact ⟨a, vs, rfl, h1, h2, h6⟩
mutual
theorem Rep.dp {Z H : Hp} (e : Sub Z H) : ∀ {v : V} {d : D}, Rep g Z v d → d.toPy.canLay0 = true → Dp g.K H v d.toPy
  | _, _, .non, _ => .non
  | _, _, .bl b, _ => .bl b
  | _, _, .int i, _ => .int i
  | _, _, .str x, _ => .str x
  | _, _, .tup h l r, c => .tup (.of (e _ _ h)) (Reps.dp e r (by simpa [D.toPy, PyData.canLay0] using c))
  | _, _, .lst h l r, c => .lst (.of (e _ _ h)) (Reps.dp e r (by simpa [D.toPy, PyData.canLay0] using c))
  | _, _, .emp h, c => by simp [D.toPy, PyData.canLay0] at c
  | _, _, .scr h l, _ => .lst (sq_sub e h) (dpInts _)
  | _, _, .sta, c => by simp [D.toPy, PyData.canLay0] at c
theorem Reps.dp {Z H : Hp} (e : Sub Z H) : ∀ {vs : List V} {ds : List D}, Reps g Z vs ds → PyData.canLayAll0 (D.toPys ds) = true → DpAll g.K H vs (D.toPys ds)
  | _, _, .nil, _ => .nil
  | _, _, .cons r t, c => by
    simp [D.toPys, PyData.canLayAll0] at c
    exact .cons (Rep.dp e r c.1) (Reps.dp e t c.2)
theorem dpInts {H : Hp} : ∀ ns : List Int, DpAll g.K H (ns.map V.int) (ns.map PyData.int)
  | [] => .nil
  | n :: ns => .cons (.int n) (dpInts ns)
end
theorem RepR.dp {H0 Z H : Hp} {v : V} {d : D} (p : Pre g Z H) (r : RepR g H0 Z H v d) (c : okPy d = true) : Dp g.K H v d.toPy := by
  have c0 : d.toPy.canLay0 = true := SeqAt.canLay_of_shaped c
  cases d <;> first
    | exact Rep.dp p.zh r c0
    | (obtain ⟨a, vs, rfl, h1, h2, h3, h4, h5, h6⟩ := r; exact .lst (.of h1) (Reps.dp p.zh h6 (by simpa [D.toPy, PyData.canLay0] using c0)))
    | (obtain ⟨a, vs, rfl, h1, h2, h3, h4, h6⟩ := r; exact .lst (.of h1) (Reps.dp p.zh h6 (by simpa [D.toPy, PyData.canLay0] using c0)))
end PV
end
section
set_option maxHeartbeats 4000000
/-! PvS2: operators and built-ins by plain data. -/
namespace PV
open PySem PySem.Spec PyProof.Rows L2
variable {g : G}
theorem limLine : lim = sizeLine := by rw [sizeLine_eq]; rfl
def OpS (g : G) (r : R2) (f : D → D → T D) : Prop := ∀ (H0 H1 Z H : Hp) (x y : D) (vx vy : V) (Q : VK) (E : Nat → Nat → Prop), Pre g Z H → RepR g H0 Z H vx x → RepR g H1 Z H vy y → (f x y).All (Post g Z H Q) E (g.bud H) → r vx vy H Q
/-- a comparison -/
def CmpS (g : G) (r : R2) (f : D → D → T Bool) : Prop := ∀ (H0 H1 Z H : Hp) (x y : D) (vx vy : V) (Q : VK) (E : Nat → Nat → Prop), Pre g Z H → RepR g H0 Z H vx x → RepR g H1 Z H vy y → (f x y).All (fun m k => m = g.bud H → Q (.bl k) H) E (g.bud H) → r vx vy H Q
theorem lenIf_ok {n : Nat} {d : D} {P : Nat → D → Prop} {E : Nat → Nat → Prop} {m : Nat} (h : (lenIf n d).All P E m) : n ≤ sizeLine ∧ P m d := by
  unfold lenIf at h
  split at h
  · rename_i q
    exact ⟨by rw [← limLine]; exact q, h⟩
  · exact h.elim
theorem cat_case {H0 H1 Z H : Hp} {x y : D} {vx vy : V} {Q : VK} {E : Nat → Nat → Prop} {xs ys : List D} (p : Pre g Z H) (rx : RepR g H0 Z H vx x) (ry : RepR g H1 Z H vy y) (ex : seqL x = some xs) (ey : seqL y = some ys)
    (h : (lenIf (xs.length + ys.length) (.new (xs ++ ys))).All (Post g Z H Q) E (g.bud H)) : rCat vx vy H Q := by
  obtain ⟨l, h⟩ := lenIf_ok h
  obtain ⟨a, vs, rfl, h1, h2, h3⟩ := rx.lst p ex
  obtain ⟨b, ws, rfl, k1, k2, k3⟩ := ry.lst p ey
  have hl : vs.length + ws.length ≤ sizeLine := by rw [h3.length, k3.length]; exact l
  exact ⟨a, b, vs, ws, rfl, rfl, h1, k1, hl, fun q hq => h.newL p (h3.append k3) (by rw [List.length_append]; exact hl) hq⟩
theorem ops_add : OpS g (fun x y H Q => rI0 (fun i j => .int (i + j)) x y H Q ∨ rCatA g.K x y H Q ∨ rCat x y H Q) addT := by
  intro H0 H1 Z H x y vx vy Q E p rx ry h
  unfold addT at h
  split at h
  · cases rx; cases ry
    exact .inl ⟨_, _, rfl, rfl, h.now p (.int _)⟩
  · rename_i xs ys
    obtain ⟨l, h⟩ := lenIf_ok h
    cases rx with
    | tup a1 a2 a3 =>
      cases ry with
      | tup b1 b2 b3 =>
        rename_i a vs b ws
        have hl : vs.length + ws.length ≤ sizeLine := by rw [a3.length, b3.length]; exact l
        refine .inr (.inl ⟨a, b, vs, ws, rfl, rfl, .of (p.zh _ _ a1), .of (p.zh _ _ b1), hl, fun e => ?_, fun _ e => ?_, fun _ _ q hq => ?_⟩)
        · subst e
          cases a3
          exact h.now p (.tup b1 b2 b3)
        · subst e
          cases b3
          rw [List.append_nil] at h
          exact h.now p (.tup a1 a2 a3)
        · exact h.newT p (a3.append b3) (by rw [List.length_append]; exact hl) hq
  · exact .inr (.inr (cat_case p rx ry rfl rfl h))
  · exact .inr (.inr (cat_case p rx ry rfl rfl h))
  · exact .inr (.inr (cat_case p rx ry rfl rfl h))
  · exact .inr (.inr (cat_case p rx ry rfl rfl h))
  · exact .inr (.inr (cat_case p rx ry rfl rfl h))
  · exact .inr (.inr (cat_case p rx ry rfl rfl h))
  · exact h.elim
theorem ops_sub : OpS g (rI0 fun i j => .int (i - j)) subT := by
  intro H0 H1 Z H x y vx vy Q E p rx ry h
  unfold subT at h
  split at h
  · cases rx; cases ry
    exact ⟨_, _, rfl, rfl, h.now p (.int _)⟩
  · exact h.elim
theorem mulOk_ok {i j : Int} (h : mulOk i j = true) : CMul i j := by
  simp [mulOk] at h
  rcases h with h | h
  · exact .inl (by simpa using h)
  · exact .inr (by simpa using h)
theorem rep_len {vs : List V} {n : Nat} (h1 : n ≤ 1000) (h2 : vs.length ≤ 1000) : (List.replicate n vs).flatten.length ≤ sizeLine := by
  have : (List.replicate n vs).flatten.length = n * vs.length := by simp [List.length_flatten]
  rw [this, sizeLine_eq]
  exact Nat.le_trans (Nat.mul_le_mul h1 h2) (by decide)
theorem ops_mul : OpS g (fun x y H Q => rI CMul (fun i j => .int (i * j)) x y H Q ∨ rRepT g.K x y H Q) mulT := by
  intro H0 H1 Z H x y vx vy Q E p rx ry h
  unfold mulT at h
  split at h
  · split at h
    · rename_i c
      cases rx; cases ry
      exact .inl ⟨_, _, rfl, rfl, mulOk_ok c, h.now p (.int _)⟩
    · exact h.elim
  · split at h
    · rename_i c
      obtain ⟨c1, c2, c3, c4⟩ := c
      cases ry
      cases rx with
      | tup a1 a2 a3 =>
        have hl := a3.length
        refine .inr ⟨_, _, _, rfl, rfl, .of (p.zh _ _ a1), fun e => ?_, c3, c4, by omega, fun q hq => ?_⟩
        · subst e
          cases a3
          exact c1 rfl
        · refine h.newT p (a3.rep _) ?_ hq
          exact rep_len (by omega) (by omega)
    · exact h.elim
  · exact h.elim
theorem ops_fdiv : OpS g (rI CDivW fun i j => .int (i / j)) fdivT := by
  intro H0 H1 Z H x y vx vy Q E p rx ry h
  unfold fdivT at h
  split at h
  · split at h
    · rename_i c
      cases rx; cases ry
      exact ⟨_, _, rfl, rfl, wide_div (b := 200) c.1 (by have := c.2; omega) (by decide) (by decide), h.now p (.int _)⟩
    · exact h.elim
  · exact h.elim
theorem ops_mod : OpS g (rI (fun _ j => 0 < j) fun i j => .int (i % j)) modT := by
  intro H0 H1 Z H x y vx vy Q E p rx ry h
  unfold modT at h
  split at h
  · split at h
    · rename_i c
      cases rx; cases ry
      exact ⟨_, _, rfl, rfl, c, h.now p (.int _)⟩
    · exact h.elim
  · exact h.elim
theorem ops_pow : OpS g (rI CPow fun i j => .int (i ^ j.toNat)) powT := by
  intro H0 H1 Z H x y vx vy Q E p rx ry h
  unfold powT at h
  split at h
  · split at h
    · rename_i c
      cases rx; cases ry
      exact ⟨_, _, rfl, rfl, ⟨c.1, by have := c.2.1; omega, c.2.2⟩, h.now p (.int _)⟩
    · exact h.elim
  · exact h.elim

theorem cmp_lt : CmpS g (fun x y H Q => rI0 (fun i j => .bl (decide (i < j))) x y H Q ∨ rLtT g.K x y H Q) ltT := by
  intro H0 H1 Z H x y vx vy Q E p rx ry h
  unfold ltT at h
  split at h
  · cases rx; cases ry
    exact .inl ⟨_, _, rfl, rfl, h rfl⟩
  · split at h
    · rename_i ns ms e1 e2
      cases rx with
      | tup a1 a2 a3 =>
        cases ry with
        | tup b1 b2 b3 =>
          have z1 := a3.intsI e1
          have z2 := b3.intsI e2
          subst z1 z2
          exact .inr ⟨_, _, _, _, rfl, rfl, .of (p.zh _ _ a1), .of (p.zh _ _ b1), h rfl⟩
    · exact h.elim
  · exact h.elim
theorem cmp_le : CmpS g (rI0 fun i j => .bl (decide (i ≤ j))) leT := by
  intro H0 H1 Z H x y vx vy Q E p rx ry h
  unfold leT at h
  split at h
  · cases rx; cases ry
    exact ⟨_, _, rfl, rfl, h rfl⟩
  · exact h.elim
theorem cmp_gt : CmpS g (rI0 fun i j => .bl (decide (j < i))) gtT := by
  intro H0 H1 Z H x y vx vy Q E p rx ry h
  unfold gtT at h
  split at h
  · cases rx; cases ry
    exact ⟨_, _, rfl, rfl, h rfl⟩
  · exact h.elim
theorem cmp_ge : CmpS g (rI0 fun i j => .bl (decide (j ≤ i))) geT := by
  intro H0 H1 Z H x y vx vy Q E p rx ry h
  unfold geT at h
  split at h
  · cases rx; cases ry
    exact ⟨_, _, rfl, rfl, h rfl⟩
  · exact h.elim
theorem deq_ok {a b : D} {P : Nat → Bool → Prop} {E : Nat → Nat → Prop} {m : Nat} (h : (deq a b).All P E m) : okPy a = true ∧ okPy b = true ∧ P m (PyData.eqv a.toPy b.toPy) := by
  unfold deq at h
  split at h
  · rename_i c
    rw [Bool.and_eq_true] at c
    exact ⟨c.1, c.2, h⟩
  · exact h.elim
theorem cmp_eq : CmpS g (rEqD g.K) deq := by
  intro H0 H1 Z H x y vx vy Q E p rx ry h
  obtain ⟨c1, c2, h⟩ := deq_ok h
  exact ⟨_, _, rx.dp p c1, ry.dp p c2, c1, c2, h rfl⟩
theorem cmp_ne : CmpS g (rNeD g.K) neT := by
  intro H0 H1 Z H x y vx vy Q E p rx ry h
  unfold neT at h
  rw [all_bind] at h
  obtain ⟨c1, c2, h⟩ := deq_ok h
  exact ⟨_, _, rx.dp p c1, ry.dp p c2, c1, c2, h rfl⟩
theorem isNon_ok {H0 Z H : Hp} {a : D} {v : V} {P : Nat → Bool → Prop} {E : Nat → Nat → Prop} {m : Nat} (r : RepR g H0 Z H v a) (h : (isNon a).All P E m) : P m (decide (v = .non)) := by
  cases a <;> first
    | exact h.elim
    | (cases r <;> exact h)
theorem cmp_is : CmpS g (fun x y H Q => y = .non ∧ Q (.bl (decide (x = .non))) H) isT := by
  intro H0 H1 Z H x y vx vy Q E p rx ry h
  unfold isT at h
  split at h
  · cases ry
    exact ⟨rfl, isNon_ok (P := fun m k => m = g.bud H → Q (.bl k) H) rx h rfl⟩
  · exact h.elim
theorem cmp_isn : CmpS g (fun x y H Q => y = .non ∧ Q (.bl (!decide (x = .non))) H) isnT := by
  intro H0 H1 Z H x y vx vy Q E p rx ry h
  unfold isnT at h
  rw [all_bind] at h
  unfold isT at h
  split at h
  · cases ry
    exact ⟨rfl, isNon_ok (P := fun m k => m = g.bud H → Q (.bl (!k)) H) rx h rfl⟩
  · exact h.elim
theorem flat_V {Z : Hp} {v : V} {d : D} (r : Rep g Z v d) (h : flat d = true) : flatV v = true := by
  cases r <;> first | rfl | cases h
theorem flat_Vs {Z : Hp} : ∀ {vs : List V} {ds : List D}, Reps g Z vs ds → ds.all flat = true → vs.all flatV = true
  | _, _, .nil, _ => rfl
  | _, _, .cons r t, h => by
    rw [List.all_cons, Bool.and_eq_true] at h
    rw [List.all_cons, flat_V r h.1, flat_Vs t h.2]
    rfl
theorem eqV_eqv {Z Z' : Hp} {v w : V} {d e : D} (r : Rep g Z v d) (s : Rep g Z' w e) (h : flat d = true) (h' : flat e = true) : eqV v w = PyData.eqv d.toPy e.toPy := by
  cases r <;> first
    | exact absurd h Bool.false_ne_true
    | (cases s <;> first | exact absurd h' Bool.false_ne_true | rfl | simp [eqV, D.toPy, PyData.eqv])
theorem inV_eqv {Z Z' : Hp} {w : V} {e : D} (s : Rep g Z' w e) (h' : flat e = true) : ∀ {vs : List V} {ds : List D}, Reps g Z vs ds → ds.all flat = true → inV w vs = ds.any fun y => PyData.eqv y.toPy e.toPy
  | _, _, .nil, _ => rfl
  | v :: vs, d :: ds, .cons r t, h => by
    rw [List.all_cons, Bool.and_eq_true] at h
    have q := inV_eqv s h' t h.2
    unfold inV at q ⊢
    rw [List.any_cons, List.any_cons, q, eqV_eqv r s h.1 h']
theorem flat_rep {H0 Z H : Hp} {v : V} {d : D} (r : RepR g H0 Z H v d) (h : flat d = true) : Rep g Z v d := by
  cases d <;> first | exact r | cases h
theorem inn_ok {H0 H1 Z H : Hp} {x ys : D} {vx vy : V} {P : Nat → Bool → Prop} {E : Nat → Nat → Prop} {m : Nat} (p : Pre g Z H) (rx : RepR g H0 Z H vx x) (ry : RepR g H1 Z H vy ys) (h : (innT x ys).All P E m) :
    ∃ a vs, vy = .ref a ∧ (SqL g.K H a vs ∨ SqT g.K H a vs) ∧ flatV vx = true ∧ vs.all flatV = true ∧ P m (inV vx vs) := by
  unfold innT at h
  split at h
  · rename_i ds e
    split at h
    · rename_i c
      obtain ⟨a, vs, rfl, h1, h2, h3⟩ := ry.seq p e
      have fx := flat_rep rx c.1
      exact ⟨a, vs, rfl, h1, flat_V fx c.1, flat_Vs h3 c.2, by rw [inV_eqv fx c.1 h3 c.2]; exact h⟩
    · exact h.elim
  · exact h.elim
theorem cmp_inn : CmpS g (rIn g.K false) innT := by
  intro H0 H1 Z H x y vx vy Q E p rx ry h
  obtain ⟨a, vs, rfl, h1, h2, h3, h4⟩ := inn_ok p rx ry h
  exact ⟨a, vs, rfl, h1, h2, h3, h4 rfl⟩
theorem cmp_nin : CmpS g (rIn g.K true) ninT := by
  intro H0 H1 Z H x y vx vy Q E p rx ry h
  unfold ninT at h
  rw [all_bind] at h
  obtain ⟨a, vs, rfl, h1, h2, h3, h4⟩ := inn_ok p rx ry h
  exact ⟨a, vs, rfl, h1, h2, h3, h4 rfl⟩

/-! ### items, slices -/
theorem Reps.atI {Z : Hp} {vs : List V} {ds : List D} {i : Int} {d : D} (r : Reps g Z vs ds) (h : atD ds i = some d) : ∃ v, L2.atI vs i = some v ∧ Rep g Z v d := by
  unfold atD L2.atI at h
  unfold L2.atI
  rw [r.length]
  cases e : L2.ixN ds.length i with
  | none => rw [e] at h; cases h
  | some j =>
    rw [e] at h
    exact r.get h
theorem ops_idx : OpS g (rIx g.K) idxT := by
  intro H0 H1 Z H x y vx vy Q E p rx ry h
  have key : ∀ {ds : List D} {i : Int}, items x = some ds → RepR g H1 Z H vy (.int i) → (ofO (atD ds i)).All (Post g Z H Q) E (g.bud H) → rIx g.K vx vy H Q := fun {ds i} e ri h => by
    obtain ⟨a, vs, rfl, h1, h2, h3⟩ := rx.seq p e
    cases ri
    cases q : atD ds i with
    | none => rw [q] at h; exact h.elim
    | some d =>
      rw [q] at h
      obtain ⟨v, k1, k2⟩ := h3.atI q
      rcases h1 with h1 | h1
      · exact .inl ⟨a, vs, i, v, rfl, rfl, h1, k1, h.now p k2⟩
      · exact .inr (.inl ⟨a, vs, i, v, rfl, rfl, h1, k1, h.now p k2⟩)
  unfold idxT at h
  split at h
  · exact key rfl ry h
  · exact key rfl ry h
  · exact key rfl ry h
  · exact key rfl ry h
  · exact h.elim
theorem Reps.cut {Z : Hp} {vs : List V} {ds : List D} (lo hi : Option Int) (r : Reps g Z vs ds) : Reps g Z (cutV vs lo hi) (cutD ds lo hi) := by
  unfold cutV cutD
  rw [r.length]
  exact (r.drop _).take _
theorem cut_whole {α : Type} {xs : List α} {i n : Nat} (h1 : i = 0) (h2 : n = xs.length) : (xs.drop i).take (n - i) = xs := by
  subst h1 h2
  rw [List.drop_zero, Nat.sub_zero, List.take_length]
theorem slc_ok {H0 Z H : Hp} {x : D} {vx : V} {lo hi : Option Int} {Q : VK} {E : Nat → Nat → Prop} (p : Pre g Z H) (rx : RepR g H0 Z H vx x) (h : (slcT x lo hi).All (Post g Z H Q) E (g.bud H)) : rSlL g.K vx lo hi H Q ∨ rSlA g.K vx lo hi H Q := by
  have key : ∀ {ds : List D}, seqL x = some ds → Post g Z H Q (g.bud H) (.new (cutD ds lo hi)) → rSlL g.K vx lo hi H Q ∨ rSlA g.K vx lo hi H Q := fun {ds} e h => by
    obtain ⟨a, vs, rfl, h1, h2, h3⟩ := rx.lst p e
    exact .inl ⟨a, vs, rfl, .of h1, fun q hq => h.newL p (h3.cut lo hi) (Nat.le_trans (cutV_length _ _ _) h2) hq⟩
  unfold slcT at h
  split at h
  · cases rx with
    | tup a1 a2 a3 =>
      refine .inr ⟨_, _, rfl, .of (p.zh _ _ a1), fun c => ?_, fun _ q hq => h.newT p (a3.cut lo hi) (Nat.le_trans (cutV_length _ _ _) a2) hq⟩
      rename_i xs a vs
      have e : cutD xs lo hi = xs := cut_whole (by rw [← a3.length]; exact c.1) (by rw [← a3.length]; exact c.2)
      rw [e] at h
      exact h.now p (.tup a1 a2 a3)
  · exact key rfl h
  · exact key rfl h
  · exact key rfl h
  · exact h.elim

/-! ### built-in calls -/
inductive RepRs (g : G) (H Z' H' : Hp) : List V → List D → Prop
  | nil : RepRs g H Z' H' [] []
  | cons {v : V} {vs : List V} {d : D} {ds : List D} : RepR g H Z' H' v d → RepRs g H Z' H' vs ds → RepRs g H Z' H' (v :: vs) (d :: ds)
theorem RepRs.step {H Z1 H1 Z2 H2 : Hp} (s : Step g Z1 H1 Z2 H2) : ∀ {vs : List V} {ds : List D}, RepRs g H Z1 H1 vs ds → RepRs g H Z2 H2 vs ds
  | _, _, .nil => .nil
  | _, _, .cons r t => .cons (r.step s) (RepRs.step s t)
theorem RepRs.back {H Z H1 Z1 Z2 H2 : Hp} (s : Step g Z H Z1 H1) : ∀ {vs : List V} {ds : List D}, RepRs g H1 Z2 H2 vs ds → RepRs g H Z2 H2 vs ds
  | _, _, .nil => .nil
  | _, _, .cons r t => .cons (r.back s) (RepRs.back s t)
def BltS (g : G) (r : List V → Hp → VK → Prop) (f : List D → T D) : Prop := ∀ (H0 Z H : Hp) (xs : List D) (vs : List V) (Q : VK) (E : Nat → Nat → Prop), Pre g Z H → RepRs g H0 Z H vs xs → (f xs).All (Post g Z H Q) E (g.bud H) → r vs H Q
theorem RepRs.one {H0 Z H : Hp} {vs : List V} {d : D} (r : RepRs g H0 Z H vs [d]) : ∃ v, vs = [v] ∧ RepR g H0 Z H v d := by
  cases r with
  | cons r t => cases t; exact ⟨_, rfl, r⟩
theorem RepRs.two {H0 Z H : Hp} {vs : List V} {d e : D} (r : RepRs g H0 Z H vs [d, e]) : ∃ v w, vs = [v, w] ∧ RepR g H0 Z H v d ∧ RepR g H0 Z H w e := by
  cases r with
  | cons r t =>
    obtain ⟨w, rfl, q⟩ := t.one
    exact ⟨_, _, rfl, r, q⟩
theorem seqI_ok {H0 Z H : Hp} {v : V} {d : D} {ns : List Int} (p : Pre g Z H) (r : RepR g H0 Z H v d) (h : seqI d = some ns) : ∃ a, v = .ref a ∧ SqL g.K H a (ns.map V.int) ∧ ns.length ≤ sizeLine := by
  unfold seqI at h
  obtain ⟨ds, h1, h2⟩ := Option.bind_eq_some_iff.mp h
  obtain ⟨a, vs, rfl, k1, k2, k3⟩ := r.lst p h1
  have e := k3.intsI h2
  subst e
  exact ⟨a, rfl, .of k1, by rw [List.length_map] at k2; exact k2⟩
theorem seqB_ok {H0 Z H : Hp} {v : V} {d : D} {ns : List Bool} (p : Pre g Z H) (r : RepR g H0 Z H v d) (h : seqB d = some ns) : ∃ a, v = .ref a ∧ SqL g.K H a (ns.map V.bl) := by
  unfold seqB at h
  obtain ⟨ds, h1, h2⟩ := Option.bind_eq_some_iff.mp h
  obtain ⟨a, vs, rfl, k1, k2, k3⟩ := r.lst p h1
  have e := k3.blsI h2
  subst e
  exact ⟨a, rfl, .of k1⟩
theorem blt_abs : BltS g (fun xs H Q => ∃ i, xs = [.int i] ∧ Q (.int (if i < 0 then -i else i)) H) absB := by
  intro H0 Z H xs vs Q E p r h
  unfold absB at h
  split at h
  · obtain ⟨v, rfl, rv⟩ := r.one
    cases rv
    exact ⟨_, rfl, h.now p (.int _)⟩
  · exact h.elim
theorem foldl_max_ge (xs : List Int) : ∀ x : Int, x ≤ xs.foldl max x ∧ (∀ y ∈ xs, y ≤ xs.foldl max x) ∧ (xs.foldl max x = x ∨ xs.foldl max x ∈ xs) := by
  induction xs with
  | nil => intro x; simp
  | cons y ys ih =>
    intro x
    obtain ⟨h1, h2, h3⟩ := ih (max x y)
    rw [List.foldl_cons]
    refine ⟨by omega, fun z hz => ?_, ?_⟩
    · rcases List.mem_cons.mp hz with e | e
      · subst e; omega
      · exact h2 z e
    · rcases h3 with e | e
      · rw [e]
        by_cases q : x ≤ y
        · right; rw [show max x y = y by omega]; exact List.mem_cons_self
        · left; omega
      · right; exact List.mem_cons_of_mem _ e
theorem foldl_min_le (xs : List Int) : ∀ x : Int, xs.foldl min x ≤ x ∧ (∀ y ∈ xs, xs.foldl min x ≤ y) ∧ (xs.foldl min x = x ∨ xs.foldl min x ∈ xs) := by
  induction xs with
  | nil => intro x; simp
  | cons y ys ih =>
    intro x
    obtain ⟨h1, h2, h3⟩ := ih (min x y)
    rw [List.foldl_cons]
    refine ⟨by omega, fun z hz => ?_, ?_⟩
    · rcases List.mem_cons.mp hz with e | e
      · subst e; omega
      · exact h2 z e
    · rcases h3 with e | e
      · rw [e]
        by_cases q : x ≤ y
        · left; omega
        · right; rw [show min x y = y by omega]; exact List.mem_cons_self
      · right; exact List.mem_cons_of_mem _ e
theorem maxL_ok {ns : List Int} {m : Int} (h : maxL ns = some m) : 0 < ns.length ∧ ∀ k, k ∈ ns → (∀ y, y ∈ ns → y ≤ k) → k = m := by
  cases ns with
  | nil => cases h
  | cons x xs =>
    obtain ⟨h1, h2, h3⟩ := foldl_max_ge xs x
    cases h
    refine ⟨by simp, fun k hk hy => ?_⟩
    have a : k ≤ xs.foldl max x := by
      rcases List.mem_cons.mp hk with e | e
      · subst e; exact h1
      · exact h2 k e
    have b : xs.foldl max x ≤ k := by
      rcases h3 with e | e
      · rw [e]; exact hy x List.mem_cons_self
      · exact hy _ (List.mem_cons_of_mem _ e)
    omega
theorem minL_ok {ns : List Int} {m : Int} (h : minL ns = some m) : 0 < ns.length ∧ ∀ k, k ∈ ns → (∀ y, y ∈ ns → k ≤ y) → k = m := by
  cases ns with
  | nil => cases h
  | cons x xs =>
    obtain ⟨h1, h2, h3⟩ := foldl_min_le xs x
    cases h
    refine ⟨by simp, fun k hk hy => ?_⟩
    have a : xs.foldl min x ≤ k := by
      rcases List.mem_cons.mp hk with e | e
      · subst e; exact h1
      · exact h2 k e
    have b : k ≤ xs.foldl min x := by
      rcases h3 with e | e
      · rw [e]; exact hy x List.mem_cons_self
      · exact hy _ (List.mem_cons_of_mem _ e)
    omega
theorem blt_max : BltS g (fun xs H Q => (∃ i j, xs = [.int i, .int j] ∧ Q (.int (if j > i then j else i)) H) ∨ rMax g.K xs H Q) maxB := by
  intro H0 Z H xs vs Q E p r h
  unfold maxB at h
  split at h
  · obtain ⟨v, w, rfl, rv, rw'⟩ := r.two
    cases rv; cases rw'
    exact .inl ⟨_, _, rfl, h.now p (.int _)⟩
  · split at h
    · rename_i m e
      obtain ⟨ns, e1, e2⟩ := Option.bind_eq_some_iff.mp e
      obtain ⟨v, rfl, rv⟩ := r.one
      obtain ⟨a, rfl, h1, _⟩ := seqI_ok p rv e1
      obtain ⟨k1, k2⟩ := maxL_ok e2
      exact .inr ⟨a, ns, rfl, h1, k1, fun k hk hy => by rw [k2 k hk hy]; exact h.now p (.int _)⟩
    · exact h.elim
  · exact h.elim
theorem blt_min : BltS g (fun xs H Q => (∃ i j, xs = [.int i, .int j] ∧ Q (.int (if j < i then j else i)) H) ∨ rMin g.K xs H Q) minB := by
  intro H0 Z H xs vs Q E p r h
  unfold minB at h
  split at h
  · obtain ⟨v, w, rfl, rv, rw'⟩ := r.two
    cases rv; cases rw'
    exact .inl ⟨_, _, rfl, h.now p (.int _)⟩
  · split at h
    · rename_i m e
      obtain ⟨ns, e1, e2⟩ := Option.bind_eq_some_iff.mp e
      obtain ⟨v, rfl, rv⟩ := r.one
      obtain ⟨a, rfl, h1, _⟩ := seqI_ok p rv e1
      obtain ⟨k1, k2⟩ := minL_ok e2
      exact .inr ⟨a, ns, rfl, h1, k1, fun k hk hy => by rw [k2 k hk hy]; exact h.now p (.int _)⟩
    · exact h.elim
  · exact h.elim
theorem blt_len : BltS g (fun xs H Q => ∃ p ys, xs = [.ref p] ∧ (SqL g.K H p ys ∨ SqT g.K H p ys) ∧ Q (.int ys.length) H) lenB := by
  intro H0 Z H xs vs Q E p r h
  unfold lenB at h
  split at h
  · split at h
    · rename_i ds e
      obtain ⟨v, rfl, rv⟩ := r.one
      obtain ⟨a, vs, rfl, h1, h2, h3⟩ := rv.seq p e
      exact ⟨a, vs, rfl, h1, by rw [h3.length]; exact h.now p (.int _)⟩
    · exact h.elim
  · exact h.elim
section
open PyProof
variable {prog : Program} {w : World} {A : Around} {E : Value → Shared → Prop} {s : Shared} {l : Addr} {xs : Array (Int × Tok)} {its : List Value} {ns : List Int} {Q : Value → Shared → Prop}
theorem iter_intTuple (hl : s.heap.IsTuple l (intItems xs))
    (h : ∀ s₂ : Shared, s₂ = { s with heap := s.heap.push { cls := .type "tuple_iterator", data := .fields #[.ref l, .int 0 0] } } →
      (s₂.heap.IsTupleIter s.heap.objs.size l 0 ∧ s₂.heap.IsTuple l (intItems xs)) → (∀ b ∈ [s.heap.objs.size, l], b < s₂.heap.objs.size) → l ≠ s.heap.objs.size → Q (.ref s.heap.objs.size) s₂) :
    wpAny (model prog w) A (pyIter (.ref l)) Q E s := by
  have hlt : l < s.heap.objs.size := by obtain ⟨_, e, _⟩ := hl; exact Heap.lt_size e
  refine wpAny_pyIter_tuple hl (h _ rfl ⟨⟨_, Heap.get?_push_size _ rfl, rfl, rfl⟩, hl.push _⟩ (fun b hb => ?_) (Nat.ne_of_lt hlt))
  show b < (s.heap.push _).objs.size
  rw [Heap.size_push]
  rcases List.mem_cons.mp hb with rfl | hb
  · exact Nat.lt_succ_self _
  · rcases List.mem_cons.mp hb with rfl | hb
    · exact Nat.lt_succ_of_lt hlt
    · cases hb
theorem old_keptT {h' : Heap} (hk : ∀ b o, b ∉ [s.heap.objs.size] → (s.heap.push { cls := .type "tuple_iterator", data := .fields #[.ref l, .int 0 0] }).get? b = some o → h'.get? b = some o) :
    ∀ b o, s.heap.get? b = some o → h'.get? b = some o := fun b o e => by
  refine hk b o (fun hm => ?_) (Heap.get?_push_of_some _ e)
  rcases List.mem_cons.mp hm with e1 | hm
  · exact absurd (e1 ▸ Heap.lt_size e) (Nat.lt_irrefl _)
  · cases hm
theorem sum_rawT (hh : A.handled = none) (hl : s.heap.IsTuple l its.toArray) (hi : IntsAre its ns)
    (h : ∀ h' tk t', (∀ b o, s.heap.get? b = some o → h'.get? b = some o) → Q (.int ns.sum t') { s with heap := h', toks := tk }) : wpAny (model prog w) A (call (.builtin "sum") [.ref l]) Q E s := by
  obtain ⟨xs, e⟩ := hi.allInts.items
  have hn : numsOf (intItems xs).toList = ns := by rw [← e]; exact hi.numsOf
  rw [nums_intItems] at hn
  rw [e] at hl
  refine call_sum_walkG (iter_intTuple hl fun s₂ e st hfp hlI => ?_)
  subst e
  refine ⟨_, _, _, _, _, _, numAt xs, rfl, Walks.tuple (A := A.in1) hh _ l hlI (intItems xs), st, hfp, (fun _ _ => intItems_at), fun h' tk t' hk => ?_⟩
  have := h h' tk t' (old_keptT hk)
  have e2 : preSum (numAt xs) xs.size = ns.sum := by rw [preSum_eq, List.take_of_length_le (by simp), hn]
  rw [← e2] at this
  simpa [intItems] using this
end
def rSumT (K : PySem.W.Frag) : List V → Hp → VK → Prop := fun vs H Q => ∃ (a : Addr) (ns : List Int), vs = [V.ref a] ∧ SqT K H a (ns.map V.int) ∧ Q (.int ns.sum) H
theorem cr_sumT {X : Cx} (hc : X.calm = true) : CallR X (.builtin "sum") (rSumT X.K) := by
  intro pins s σ H vs us Q I r h
  obtain ⟨a, ns, rfl, hs, q⟩ := h
  obtain ⟨its, rv, hl, _⟩ := I.tuple hs
  rw [Vals.ref1 r]
  exact sum_rawT (I.ok.hd hc) hl rv.ints fun h' tk t' hk => ⟨.int _, H, I.kept hk, ⟨_, rfl⟩, q⟩
theorem blt_sum : BltS g (fun xs H Q => rSum g.K xs H Q ∨ rSumT g.K xs H Q) sumB := by
  intro H0 Z H xs vs Q E p r h
  unfold sumB at h
  split at h
  · split at h
    · rename_i ns e
      obtain ⟨v, rfl, rv⟩ := r.one
      obtain ⟨ds, e1, e2⟩ := Option.bind_eq_some_iff.mp e
      obtain ⟨a, ws, rfl, k1, k2, k3⟩ := rv.seq p e1
      have e3 := k3.intsI e2
      subst e3
      rcases k1 with k1 | k1
      · exact .inl ⟨a, ns, rfl, k1, h.now p (.int _)⟩
      · exact .inr ⟨a, ns, rfl, k1, h.now p (.int _)⟩
    · exact h.elim
  · exact h.elim
theorem blt_all : BltS g (rAll g.K) allB := by
  intro H0 Z H xs vs Q E p r h
  unfold allB at h
  split at h
  · split at h
    · rename_i ns e
      obtain ⟨v, rfl, rv⟩ := r.one
      obtain ⟨a, rfl, h1⟩ := seqB_ok p rv e
      exact ⟨a, ns, rfl, h1, h.now p (.bl _)⟩
    · exact h.elim
  · exact h.elim
theorem blt_any : BltS g (rAny g.K) anyB := by
  intro H0 Z H xs vs Q E p r h
  unfold anyB at h
  split at h
  · split at h
    · rename_i ns e
      obtain ⟨v, rfl, rv⟩ := r.one
      obtain ⟨a, rfl, h1⟩ := seqB_ok p rv e
      exact ⟨a, ns, rfl, h1, h.now p (.bl _)⟩
    · exact h.elim
  · exact h.elim
theorem insI_perm (x : Int) : ∀ ys : List Int, (insI x ys).Perm (x :: ys)
  | [] => .refl _
  | y :: ys => by
    unfold insI
    split
    · exact .refl _
    · exact ((insI_perm x ys).cons y).trans (.swap x y ys)
theorem sortI_perm : ∀ xs : List Int, (sortI xs).Perm xs
  | [] => .refl _
  | x :: xs => (insI_perm x (sortI xs)).trans ((sortI_perm xs).cons x)
theorem insI_sorted (x : Int) : ∀ ys : List Int, ys.Pairwise (· ≤ ·) → (insI x ys).Pairwise (· ≤ ·)
  | [], _ => by simp [insI]
  | y :: ys, h => by
    unfold insI
    rw [List.pairwise_cons] at h
    split
    · rename_i q
      rw [List.pairwise_cons, List.pairwise_cons]
      refine ⟨fun z hz => ?_, h⟩
      rcases List.mem_cons.mp hz with e | e
      · subst e; exact q
      · exact Int.le_trans q (h.1 z e)
    · rename_i q
      rw [List.pairwise_cons]
      refine ⟨fun z hz => ?_, insI_sorted x ys h.2⟩
      rcases List.mem_cons.mp ((insI_perm x ys).mem_iff.mp hz) with e | e
      · subst e; omega
      · exact h.1 z e
theorem sortI_sorted : ∀ xs : List Int, (sortI xs).Pairwise (· ≤ ·)
  | [] => .nil
  | x :: xs => insI_sorted x _ (sortI_sorted xs)
theorem blt_sorted : BltS g (rSorted g.K) sortedB := by
  intro H0 Z H xs vs Q E p r h
  unfold sortedB at h
  split at h
  · split at h
    · rename_i ns e
      split at h
      · rename_i c
        obtain ⟨v, rfl, rv⟩ := r.one
        obtain ⟨a, rfl, h1, _⟩ := seqI_ok p rv e
        refine ⟨a, ns, rfl, h1, c, fun ns' q hp hs hq => ?_⟩
        have e : ns' = sortI ns := PySem.W.ksm_same (hp.trans (sortI_perm ns).symm) hs (sortI_sorted ns)
        subst e
        exact h.newL p (Reps.ofInts _) (by rw [List.length_map, (sortI_perm ns).length_eq]; exact small64 c) hq
      · exact h.elim
    · exact h.elim
  · exact h.elim
theorem blt_list : BltS g (fun xs H Q => ∃ p ys, xs = [.ref p] ∧ (SqL g.K H p ys ∨ SqT g.K H p ys) ∧ ∀ l, H l = none → Q (.ref l) (upd H l (.lst ys))) listB := by
  intro H0 Z H xs vs Q E p r h
  unfold listB at h
  split at h
  · split at h
    · rename_i ds e
      obtain ⟨v, rfl, rv⟩ := r.one
      obtain ⟨a, vs, rfl, h1, h2, h3⟩ := rv.seq p e
      exact ⟨a, vs, rfl, h1, fun l hl => h.newL p h3 h2 hl⟩
    · exact h.elim
  · exact h.elim
theorem blt_tuple : BltS g (fun xs H Q => ∃ p ys, xs = [.ref p] ∧ ((SqL g.K H p ys ∧ ∀ l, H l = none → Q (.ref l) (upd H l (.tup ys))) ∨ (SqT g.K H p ys ∧ Q (.ref p) H))) tupleB := by
  intro H0 Z H xs vs Q E p r h
  unfold tupleB at h
  split at h
  · split at h
    · rename_i ds e
      obtain ⟨v, rfl, rv⟩ := r.one
      rename_i d _
      cases d <;> simp [items] at e
      · subst e
        cases rv with
        | tup b1 b2 b3 => exact ⟨_, _, rfl, .inr ⟨.of (p.zh _ _ b1), h.now p (.tup b1 b2 b3)⟩⟩
      · subst e
        obtain ⟨a, vs, rfl, h1, h2, h3⟩ := rv.lst p rfl
        exact ⟨a, vs, rfl, .inl ⟨.of h1, fun l hl => h.newT p h3 h2 hl⟩⟩
      · subst e
        cases rv with
        | scr b1 b2 => exact ⟨_, _, rfl, .inl ⟨sq_sub p.zh b1, fun l hl => h.newT p (Reps.ofInts _) (by rw [List.length_map, sizeLine_eq]; omega) hl⟩⟩
      · subst e
        obtain ⟨a, vs, rfl, h1, h2, h3⟩ := rv.lst p rfl
        exact ⟨a, vs, rfl, .inl ⟨.of h1, fun l hl => h.newT p h3 h2 hl⟩⟩
      · subst e
        obtain ⟨a, vs, rfl, h1, h2, h3⟩ := rv.lst p rfl
        exact ⟨a, vs, rfl, .inl ⟨.of h1, fun l hl => h.newT p h3 h2 hl⟩⟩
    · exact h.elim
  · exact h.elim
theorem blt_int : BltS g (fun xs H Q => (∃ i, xs = [.int i] ∧ Q (.int i) H) ∨ ∃ k, xs = [.bl k] ∧ Q (.int (if k then 1 else 0)) H) intB := by
  intro H0 Z H xs vs Q E p r h
  unfold intB at h
  split at h
  · obtain ⟨v, rfl, rv⟩ := r.one
    cases rv
    exact .inl ⟨_, rfl, h.now p (.int _)⟩
  · exact h.elim
/-! ### isinstance -/
def KOk (T : String) (k : D → Option Bool) : Prop := (∀ i, k (.int i) = kitB "int" T) ∧ (∀ b, k (.bl b) = kitB "bool" T) ∧ k .non = kitB "NoneType" T ∧ (∀ x, k (.str x) = kitB "str" T) ∧ (∀ xs, k (.tup xs) = kitB "tuple" T) ∧ (∀ xs, k (.lst xs) = kitB "list" T) ∧ k .emp = kitB "dict" T ∧
  (∀ c, k (.exc c) = none) ∧ k .sta = none ∧ (∀ ns, k (.scr ns) = none) ∧ (∀ xs, k (.bor xs) = none) ∧ (∀ xs, k (.new xs) = none)
theorem kok_int : KOk "int" kInt := by
  refine ⟨fun _ => ?_, fun _ => ?_, ?_, fun _ => ?_, fun _ => ?_, fun _ => ?_, ?_, fun _ => rfl, rfl, fun _ => rfl, fun _ => rfl, fun _ => rfl⟩ <;> first | exact Eq.symm (show kitB _ _ = some true by decide +kernel) | exact Eq.symm (show kitB _ _ = some false by decide +kernel)
theorem kok_bool : KOk "bool" kBool := by
  refine ⟨fun _ => ?_, fun _ => ?_, ?_, fun _ => ?_, fun _ => ?_, fun _ => ?_, ?_, fun _ => rfl, rfl, fun _ => rfl, fun _ => rfl, fun _ => rfl⟩ <;> first | exact Eq.symm (show kitB _ _ = some true by decide +kernel) | exact Eq.symm (show kitB _ _ = some false by decide +kernel)
theorem kok_tup : KOk "tuple" kTup := by
  refine ⟨fun _ => ?_, fun _ => ?_, ?_, fun _ => ?_, fun _ => ?_, fun _ => ?_, ?_, fun _ => rfl, rfl, fun _ => rfl, fun _ => rfl, fun _ => rfl⟩ <;> first | exact Eq.symm (show kitB _ _ = some true by decide +kernel) | exact Eq.symm (show kitB _ _ = some false by decide +kernel)
theorem kok_lst : KOk "list" kLst := by
  refine ⟨fun _ => ?_, fun _ => ?_, ?_, fun _ => ?_, fun _ => ?_, fun _ => ?_, ?_, fun _ => rfl, rfl, fun _ => rfl, fun _ => rfl, fun _ => rfl⟩ <;> first | exact Eq.symm (show kitB _ _ = some true by decide +kernel) | exact Eq.symm (show kitB _ _ = some false by decide +kernel)
theorem kok_str : KOk "str" kStr := by
  refine ⟨fun _ => ?_, fun _ => ?_, ?_, fun _ => ?_, fun _ => ?_, fun _ => ?_, ?_, fun _ => rfl, rfl, fun _ => rfl, fun _ => rfl, fun _ => rfl⟩ <;> first | exact Eq.symm (show kitB _ _ = some true by decide +kernel) | exact Eq.symm (show kitB _ _ = some false by decide +kernel)
theorem isKind_ok {T : String} {k : D → Option Bool} (o : KOk T k) {H0 Z H : Hp} {d : D} {v : V} {Q : VK} {E : Nat → Nat → Prop} (p : Pre g Z H) (r : RepR g H0 Z H v d) (h : (isKind k [d]).All (Post g Z H Q) E (g.bud H)) : rIsi g.K [v, .ty T] H Q := by
  obtain ⟨o1, o2, o3, o4, o5, o6, o7, o8, o9, o10, o11, o12⟩ := o
  unfold isKind at h
  simp only at h
  split at h
  · rename_i b e
    have fin : ∀ t : String, TyX g.K H v (.type t) → kitB t T = some b → rIsi g.K [v, .ty T] H Q := fun t ty q => ⟨v, .ty T, _, _, b, rfl, .ty T, ty, kit_ty q, h.now p (.bl b)⟩
    cases d
    · cases r; exact fin _ (.base .non) (o3 ▸ e)
    · cases r; exact fin _ (.base (.bl _)) (o2 _ ▸ e)
    · cases r; exact fin _ (.base (.int _)) (o1 _ ▸ e)
    · cases r; exact fin _ (.base (.str _)) (o4 _ ▸ e)
    · cases r with | tup b1 b2 b3 => exact fin _ (.base (.tup (p.zh _ _ b1))) (o5 _ ▸ e)
    · cases r with | lst b1 b2 b3 => exact fin _ (.base (.lst (p.zh _ _ b1))) (o6 _ ▸ e)
    · cases r with | emp b1 => exact fin _ (.base (.dK (p.zh _ _ b1))) (o7 ▸ e)
    · rw [o8] at e; cases e
    · rw [o9] at e; cases e
    · rw [o10] at e; cases e
    · rw [o11] at e; cases e
    · rw [o12] at e; cases e
  · exact h.elim
end PV
end
section
set_option maxHeartbeats 4000000
/-! PvS3: which term of the small language stands for which expression; readings. -/
namespace PV
open PySem PySem.Spec PyProof.Rows L2
variable {g : G}

structure Ck where
  N : List Str
  fns : List (Nat × Str × Nat)
  cons : List (Str × Int)
  cls : List (Nat × Str)
  kws : List (Nat × Str × List Str × List Nat) := []
def visK : Option NameKind → Bool
  | some .local => true | some .cell => true | some .free => true | _ => false
def visB (ck : Ck) (sc : Scope) (i : Nat) (x : Str) : Bool := decide (ck.N[i]? = some x) && visK (sc.names.lookup x) && !(x == ("__debug__" : Str)) && !(x == ("__classdict__" : Str))
def glB (sc : Scope) (x : Str) : Bool := decide (sc.names.lookup x = some .globalImplicit) && !(x == ("__debug__" : Str)) && decide (x ≠ ("__name__" : Str))
def bopB : BOp → Operator → Bool
  | .add, .Add => true | .sub, .Sub => true | .mul, .Mult => true | .fdiv, .FloorDiv => true | .mod, .Mod => true | .pow, .Pow => true | _, _ => false
def copB : COp → CmpOp → Bool
  | .lt, .Lt => true | .le, .LtE => true | .gt, .Gt => true | .ge, .GtE => true | .eq, .Eq => true | .ne, .NotEq => true | .is, .Is => true | .isn, .IsNot => true | .inn, .In => true | .nin, .NotIn => true | _, _ => false
def bltName : Blt → Str
  | .abs => "abs" | .max => "max" | .min => "min" | .len => "len" | .sum => "sum" | .all => "all" | .any => "any" | .sorted => "sorted" | .list => "list" | .tuple => "tuple" | .int => "int"
  | .isint => "isinstance" | .isbool => "isinstance" | .istup => "isinstance" | .islst => "isinstance" | .isstr => "isinstance"
def kindName : Blt → Option Str
  | .isint => some "int" | .isbool => some "bool" | .istup => some "tuple" | .islst => some "list" | .isstr => some "str" | _ => none
def plainE : Expr → Bool
  | .Starred .. => false | _ => true
def kwNames (l : List Keyword) : List Str := l.filterMap (·.arg)
def kwSome (l : List Keyword) : Bool := l.all (·.arg.isSome)
def isYes : X → Bool
  | .yes => true | _ => false
def condB : List Expr → Bool → (Expr → Bool) → Bool
  | [], y, _ => y
  | [c], _, f => f c
  | _, _, _ => false
def tailB (es : List Expr) (p q : Bool) : Bool := match es with
  | [] => p
  | _ => q
def notSetB : Expr → Bool
  | .Set .. => false | _ => true
def plainIxB : Expr → Bool
  | .Slice .. => false | _ => true
/-- a name that is stored; f: cells of the block's own -/
def nmB (ck : Ck) (sc : Scope) (f : Str → Bool) (i : Nat) : Expr → Bool
  | .Name x _ => decide (ck.N[i]? = some x) && (decide (sc.names.lookup x = some .local) || (decide (sc.names.lookup x = some .cell) && f x))
  | _ => false
def nmsB (ck : Ck) (sc : Scope) (f : Str → Bool) : List Nat → List Expr → Bool
  | [], [] => true
  | i :: is, e :: es => nmB ck sc f i e && nmsB ck sc f is es
  | _, _ => false
def tgCell (ck : Ck) (sc : Scope) (f : Str → Bool) : Tg → Expr → Bool
  | .nm i, e => nmB ck sc f i e
  | .tp is, .Tuple es _ _ => nmsB ck sc f is es
  | _, _ => false
def tgIn (own : List (Str × Nat)) : Tg → Bool
  | .nm i => decide (i ∈ own.map (·.2))
  | .tp is => is.all fun i => decide (i ∈ own.map (·.2))
section
variable (ck : Ck)
mutual
def chkE : X → Scope → Expr → Bool
  | .non, _, .Constant .none _ _ => true
  | .bl b, _, .Constant (.bool c) _ _ => b == c
  | .int i, _, .Constant (.int j) _ _ => i == j
  | .str x, _, .Constant (.str y) _ _ => decide (x = y)
  | .var i, sc, .Name x _ => visB ck sc i x
  | .con y i, sc, .Name x _ => decide (x = y) && glB sc x && decide ((x, i) ∈ ck.cons)
  | .bin op a b, sc, .BinOp ea o eb _ => bopB op o && chkE a sc ea && chkE b sc eb
  | .neg a, sc, .UnaryOp .USub ea _ => chkE a sc ea
  | .cmp op a b, sc, .Compare ea [o] [eb] _ => copB op o && chkE a sc ea && chkE b sc eb && !(behindInMarks o eb)
  | .chain op oq a b c, sc, .Compare ea [o, q] [eb, ec] _ => copB op o && copB oq q && chkE a sc ea && chkE b sc eb && chkE c sc ec && !(lastMarks [o, q] [eb, ec])
  | .and a b, sc, .BoolOp .And (ea :: eb :: es) pos => chkE a sc ea && tailB es (chkE b sc eb) (chkE b sc (.BoolOp .And (eb :: es) pos))
  | .or a b, sc, .BoolOp .Or (ea :: eb :: es) pos => chkE a sc ea && tailB es (chkE b sc eb) (chkE b sc (.BoolOp .Or (eb :: es) pos))
  | .not a, sc, .UnaryOp .Not ea _ => chkE a sc ea
  | .ite t a b, sc, .IfExp et ea eb _ => chkT t sc et && chkE a sc ea && chkE b sc eb
  | .tup as, sc, .Tuple es _ _ => chkA as sc es
  | .lst as, sc, .List es _ => chkA as sc es
  | .idx a i, sc, .Subscript ea ei _ => chkE a sc ea && chkE i sc ei && plainIxB ei
  | .slc a lo hi, sc, .Subscript ea (.Slice l h none _) _ => chkE a sc ea && chkO lo sc l && chkO hi sc h
  | .call f as, sc, .Call (.Name x _) (e :: es) [] _ => glB sc x && decide ((f, x, (e :: es).length) ∈ ck.fns) && chkA as sc (e :: es) && (e :: es).all plainE
  | .callK f perm as, sc, .Call (.Name x _) [] (kw :: kws) _ => glB sc x && decide ((f, x, kwNames (kw :: kws), perm) ∈ ck.kws) && kwSome (kw :: kws) && chkA as sc ((kw :: kws).map (·.value))
  | .blt f as, sc, .Call (.Name x _) (e :: es) [] _ => glB sc x && decide (x = bltName f) && decide (kindName f = none) && chkR as sc (e :: es) && (e :: es).all plainE
  | .isk f a, sc, .Call (.Name x _) [e, .Name y _] [] _ => glB sc x && decide (x = bltName f) && glB sc y && decide (kindName f = some y) && chkE a sc e && plainE e
  | .comp tg it cond elt own, sc, .ListComp el [⟨tge, ite, ifs, 0⟩] scope _ => blkC ck.N sc scope own && tgCell ck (relS scope sc) (fun x => scope.names.lookup x == some .cell) tg tge && tgIn own tg && notSetB ite && chkI it sc tge ite && condB ifs (isYes cond) (chkT cond (relS scope sc)) && chkE elt (relS scope sc) el
  | _, _, _ => false
termination_by structural t => t
def chkT : X → Scope → Expr → Bool
  | .and a b, sc, .BoolOp .And (ea :: eb :: es) pos => chkT a sc ea && tailB es (chkT b sc eb) (chkW b sc (.BoolOp .And (eb :: es) pos))
  | .or a b, sc, .BoolOp .Or (ea :: eb :: es) pos => chkT a sc ea && tailB es (chkT b sc eb) (chkW b sc (.BoolOp .Or (eb :: es) pos))
  | .not a, sc, .UnaryOp .Not ea _ => chkT a sc ea
  | .cmp op a b, sc, .Compare ea [o] [eb] _ => copB op o && chkE a sc ea && chkE b sc eb && !(behindInMarks o eb)
  | .chain op oq a b c, sc, .Compare ea [o, q] [eb, ec] _ => copB op o && copB oq q && chkE a sc ea && chkE b sc eb && chkE c sc ec && !(lastMarks [o, q] [eb, ec])
  | .var i, sc, .Name x _ => visB ck sc i x
  | .call f as, sc, .Call (.Name x _) (e :: es) [] _ => glB sc x && decide ((f, x, (e :: es).length) ∈ ck.fns) && chkA as sc (e :: es) && (e :: es).all plainE
  | .callK f perm as, sc, .Call (.Name x _) [] (kw :: kws) _ => glB sc x && decide ((f, x, kwNames (kw :: kws), perm) ∈ ck.kws) && kwSome (kw :: kws) && chkA as sc ((kw :: kws).map (·.value))
  | .blt f as, sc, .Call (.Name x _) (e :: es) [] _ => glB sc x && decide (x = bltName f) && decide (kindName f = none) && chkR as sc (e :: es) && (e :: es).all plainE
  | .isk f a, sc, .Call (.Name x _) [e, .Name y _] [] _ => glB sc x && decide (x = bltName f) && glB sc y && decide (kindName f = some y) && chkE a sc e && plainE e
  | _, _, _ => false
termination_by structural t => t
def chkW : X → Scope → Expr → Bool
  | .and a b, sc, .BoolOp .And (ea :: eb :: es) pos => chkT a sc ea && tailB es (chkT b sc eb) (chkW b sc (.BoolOp .And (eb :: es) pos))
  | .or a b, sc, .BoolOp .Or (ea :: eb :: es) pos => chkT a sc ea && tailB es (chkT b sc eb) (chkW b sc (.BoolOp .Or (eb :: es) pos))
  | _, _, _ => false
termination_by structural t => t
def chkA : X → Scope → List Expr → Bool
  | .nil, _, [] => true
  | .cons a as, sc, e :: es => chkE a sc e && plainE e && chkA as sc es
  | _, _, _ => false
termination_by structural t => t
def chkR : X → Scope → List Expr → Bool
  | .nil, _, [] => true
  | .cons a as, sc, e :: es => chkE a sc e && plainE e && chkR as sc es
  | _, _, _ => false
termination_by structural t => t
def chkO : X → Scope → Option Expr → Bool
  | .nopart, _, none => true
  | .part a, sc, some e => chkE a sc e
  | _, _, _ => false
termination_by structural t => t
def chkI : X → Scope → Expr → Expr → Bool
  | .cap a, sc, tg, e => chkI a sc tg e
  | .rng1 a, sc, _, .Call (.Name x _) [e] [] _ => glB sc x && decide (x = ("range" : Str)) && chkE a sc e && plainE e
  | .rng2 a b, sc, _, .Call (.Name x _) [e, f] [] _ => glB sc x && decide (x = ("range" : Str)) && chkE a sc e && chkE b sc f && plainE e && plainE f
  | .zip a b, sc, .Tuple _ _ _, .Call (.Name x _) [e, f] [] _ => glB sc x && decide (x = ("zip" : Str)) && chkE a sc e && chkE b sc f && plainE e && plainE f
  | .enum a, sc, .Tuple _ _ _, .Call (.Name x _) [e] [] _ => glB sc x && decide (x = ("enumerate" : Str)) && chkE a sc e && plainE e
  | .var i, sc, _, .Name x _ => visB ck sc i x
  | .tup as, sc, _, .Tuple es _ _ => chkA as sc es
  | .lst as, sc, _, .List es _ => chkA as sc es
  | .idx a i, sc, _, .Subscript ea ei _ => chkE a sc ea && chkE i sc ei && plainIxB ei
  | .slc a lo hi, sc, _, .Subscript ea (.Slice l h none _) _ => chkE a sc ea && chkO lo sc l && chkO hi sc h
  | .call f as, sc, _, .Call (.Name x _) (e :: es) [] _ => glB sc x && decide ((f, x, (e :: es).length) ∈ ck.fns) && chkA as sc (e :: es) && (e :: es).all plainE
  | .callK f perm as, sc, _, .Call (.Name x _) [] (kw :: kws) _ => glB sc x && decide ((f, x, kwNames (kw :: kws), perm) ∈ ck.kws) && kwSome (kw :: kws) && chkA as sc ((kw :: kws).map (·.value))
  | .blt f as, sc, _, .Call (.Name x _) (e :: es) [] _ => glB sc x && decide (x = bltName f) && decide (kindName f = none) && chkR as sc (e :: es) && (e :: es).all plainE
  | _, _, _, _ => false
termination_by structural t => t
end
end

/-- the frame's values -/
def SlotOk (g : G) (Z H : Hp) : Sl → Option V → Prop
  | .un, _ => True
  | .val d, o => ∃ v, o = some v ∧ Rep g Z v d
  | .own xs, o => ∃ a vs, o = some (.ref a) ∧ H a = some (.lst vs) ∧ vs.length ≤ sizeLine ∧ ¬ g.F a ∧ Z a = none ∧ Reps g Z vs xs
structure Cfg (g : G) (r : Env) (Z : Hp) (σ : L2.St) (H : Hp) : Prop where
  pre : Pre g Z H
  len : r.length = σ.length
  slot : ∀ (i : Nat) (s : Sl), r[i]? = some s → ∃ o, σ[i]? = some o ∧ SlotOk g Z H s o
theorem none_step {Z1 H1 Z2 H2 : Hp} (s : Step g Z1 H1 Z2 H2) {a : Addr} {o : HO} (h : H1 a = some o) (hz : Z1 a = none) : Z2 a = none := by
  rcases none_or (H := Z2) (a := a) with e | ⟨u, e⟩
  · exact e
  · rcases s.new a u e with q | q
    · rw [hz] at q; cases q
    · rw [h] at q; cases q
theorem SlotOk.step {Z H Z' H' : Hp} (s : Step g Z H Z' H') {sl : Sl} {o : Option V} (h : SlotOk g Z H sl o) : SlotOk g Z' H' sl o := by
  cases sl with
  | un => trivial
  | val d => obtain ⟨v, e, r⟩ := h; exact ⟨v, e, r.mono s.z⟩
  | own xs =>
    obtain ⟨a, vs, e, h1, h2, h3, h4, h5⟩ := h
    exact ⟨a, vs, e, s.h _ _ h1 h3, h2, h3, none_step s h1 h4, h5.mono s.z⟩
theorem Cfg.step {r : Env} {Z H Z' H' : Hp} {σ : L2.St} (c : Cfg g r Z σ H) (s : Step g Z H Z' H') : Cfg g r Z' σ H' := ⟨s.pre, c.len, fun i sl e => by
  obtain ⟨o, h1, h2⟩ := c.slot i sl e
  exact ⟨o, h1, h2.step s⟩⟩

/-- readings that keep to what is reckoned -/
def SimE (g : G) (W : Nat → Hp → Prop) (t : TE) (e : Env → T D) : Prop := ∀ (r : Env) (Z : Hp) (σ : L2.St) (H : Hp) (Q : VK), Cfg g r Z σ H → (e r).All (Post g Z H Q) (PostE g Z H W) (g.bud H) → t σ H Q
def PostB (g : G) (Z H : Hp) (Q : Bool → Hp → Prop) (m : Nat) (k : Bool) : Prop := ∀ Z' H', Step g Z H Z' H' → g.bud H' = m → Q k H'
def SimB (g : G) (W : Nat → Hp → Prop) (t : TT) (e : Env → T Bool) : Prop := ∀ (r : Env) (Z : Hp) (σ : L2.St) (H : Hp) (Q : Bool → Hp → Prop), Cfg g r Z σ H → (e r).All (PostB g Z H Q) (PostE g Z H W) (g.bud H) → t σ H Q
def PostA (g : G) (Z H : Hp) (Q : List V → Hp → Prop) (m : Nat) (ds : List D) : Prop := ∀ vs Z' H', Step g Z H Z' H' → g.bud H' = m → Reps g Z' vs ds → Q vs H'
def SimA (g : G) (W : Nat → Hp → Prop) (t : TA) (e : Env → T (List D)) : Prop := ∀ (r : Env) (Z : Hp) (σ : L2.St) (H : Hp) (Q : List V → Hp → Prop), Cfg g r Z σ H → (e r).All (PostA g Z H Q) (PostE g Z H W) (g.bud H) → t σ H Q
/-- new lists among them stand apart -/
def NewD : List V → List D → Prop
  | v :: vs, d :: ds => (∀ xs, d = .new xs → ∀ (k : Nat) (ys : List D), ds[k]? = some (.new ys) → vs[k]? ≠ some v) ∧ NewD vs ds
  | _, _ => True
def PostR (g : G) (Z H : Hp) (Q : List V → Hp → Prop) (m : Nat) (ds : List D) : Prop := ∀ vs Z' H', Step g Z H Z' H' → g.bud H' = m → RepRs g H Z' H' vs ds → NewD vs ds → Q vs H'
def SimR (g : G) (W : Nat → Hp → Prop) (t : TA) (e : Env → T (List D)) : Prop := ∀ (r : Env) (Z : Hp) (σ : L2.St) (H : Hp) (Q : List V → Hp → Prop), Cfg g r Z σ H → (e r).All (PostR g Z H Q) (PostE g Z H W) (g.bud H) → t σ H Q
def PostO (g : G) (Z H : Hp) (Q : Option Int → Hp → Prop) (m : Nat) (o : Option Int) : Prop := ∀ Z' H', Step g Z H Z' H' → g.bud H' = m → Q o H'
def SimO (g : G) (W : Nat → Hp → Prop) (t : TO) (e : Env → T (Option Int)) : Prop := ∀ (r : Env) (Z : Hp) (σ : L2.St) (H : Hp) (Q : Option Int → Hp → Prop), Cfg g r Z σ H → (e r).All (PostO g Z H Q) (PostE g Z H W) (g.bud H) → t σ H Q
/-- an iterator that gives out the items -/
def WalkD (g : G) (J : It) (Z : Hp) (ds : List D) : Prop := ∃ Gd Y, Walk J ds.length Gd Y ∧ (∀ H, Sub Z H → Gd H) ∧
  ∀ i Z1 H x H', i < ds.length → Sub Z Z1 → Pre g Z1 H → Y i H x H' → ∃ Z' d, ds[i]? = some d ∧ Step g Z1 H Z' H' ∧ g.bud H' = g.bud H ∧ Rep g Z' x d
def PostI (g : G) (Z H : Hp) (R : It → Hp → Prop) (m : Nat) (ds : List D) : Prop := ∀ J Z' H', Step g Z H Z' H' → g.bud H' = m → WalkD g J Z' ds → ds.length ≤ sizeLine → R J H'
def SimI (g : G) (W : Nat → Hp → Prop) (t : TI) (e : Env → T (List D)) : Prop := ∀ (r : Env) (Z : Hp) (σ : L2.St) (H : Hp) (R : It → Hp → Prop), Cfg g r Z σ H → (e r).All (PostI g Z H R) (PostE g Z H W) (g.bud H) → t σ H R

section
variable {W : Nat → Hp → Prop} {ta tb tc te : TE} {tt tu : TT} {e f e1 e2 : Env → T D} {b c : Env → T Bool}
/-- the part that comes first -/
theorem SimE.first (h : SimE g W ta e) {α : Type} {k : D → T α} {P : Nat → α → Prop} {r : Env} {Z H : Hp} {σ : L2.St} {Q : VK} (c : Cfg g r Z σ H) (a : (e r >>= k).All P (PostE g Z H W) (g.bud H))
    (q : ∀ d v Z' H', Step g Z H Z' H' → RepR g H Z' H' v d → (k d).All P (PostE g Z' H' W) (g.bud H') → Q v H') : ta σ H Q := by
  rw [all_bind] at a
  exact h r Z σ H Q c (All.mono a (fun d h1 v Z' H' s e rr => by subst e; exact q d v Z' H' s rr (All.mono h1 (fun _ x => x) fun _ x => x.shift s)) fun _ x => x)
theorem SimE.first0 (h : SimE g W ta e) {α : Type} {k : D → T α} {P : Nat → α → Prop} {r : Env} {Z H : Hp} {σ : L2.St} {Q : VK} (c : Cfg g r Z σ H) (a : (e r >>= k).All P (PostE g Z H W) (g.bud H))
    (q : ∀ d v Z' H', Step g Z H Z' H' → RepR g H Z' H' v d → (k d).All P (PostE g Z H W) (g.bud H') → Q v H') : ta σ H Q := by
  rw [all_bind] at a
  exact h r Z σ H Q c (All.mono a (fun d h1 v Z' H' s e rr => by subst e; exact q d v Z' H' s rr h1) fun _ x => x)
theorem allE_shift {α : Type} {P : Nat → α → Prop} {t : T α} {Z H Z1 H1 : Hp} {m : Nat} (s : Step g Z H Z1 H1) (h : t.All P (PostE g Z H W) m) : t.All P (PostE g Z1 H1 W) m := All.mono h (fun _ x => x) fun _ x => x.shift s
/-- from the first moment, its own list frozen -/
theorem Cfg.step2 {r : Env} {Z Z' H' : Hp} {σ : L2.St} {H : Hp} (c : Cfg g r Z σ H) (s : Step g Z H Z' H') : Cfg g r Z' σ H' := c.step s
theorem SimB.first (h : SimB g W tt b) {α : Type} {k : Bool → T α} {P : Nat → α → Prop} {r : Env} {Z H : Hp} {σ : L2.St} {Q : Bool → Hp → Prop} (c : Cfg g r Z σ H) (a : (b r >>= k).All P (PostE g Z H W) (g.bud H))
    (q : ∀ d Z' H', Step g Z H Z' H' → (k d).All P (PostE g Z' H' W) (g.bud H') → Q d H') : tt σ H Q := by
  rw [all_bind] at a
  exact h r Z σ H Q c (All.mono a (fun d h1 Z' H' s e => by subst e; exact q d Z' H' s (All.mono h1 (fun _ x => x) fun _ x => x.shift s)) fun _ x => x)
theorem SimA.first {ta : TA} {e : Env → T (List D)} (h : SimA g W ta e) {α : Type} {k : List D → T α} {P : Nat → α → Prop} {r : Env} {Z H : Hp} {σ : L2.St} {Q : List V → Hp → Prop} (c : Cfg g r Z σ H) (a : (e r >>= k).All P (PostE g Z H W) (g.bud H))
    (q : ∀ d v Z' H', Step g Z H Z' H' → Reps g Z' v d → (k d).All P (PostE g Z' H' W) (g.bud H') → Q v H') : ta σ H Q := by
  rw [all_bind] at a
  exact h r Z σ H Q c (All.mono a (fun d h1 v Z' H' s e rr => by subst e; exact q d v Z' H' s rr (All.mono h1 (fun _ x => x) fun _ x => x.shift s)) fun _ x => x)
theorem SimR.first {ta : TA} {e : Env → T (List D)} (h : SimR g W ta e) {α : Type} {k : List D → T α} {P : Nat → α → Prop} {r : Env} {Z H : Hp} {σ : L2.St} {Q : List V → Hp → Prop} (c : Cfg g r Z σ H) (a : (e r >>= k).All P (PostE g Z H W) (g.bud H))
    (q : ∀ d v Z' H', Step g Z H Z' H' → RepRs g H Z' H' v d → NewD v d → (k d).All P (PostE g Z' H' W) (g.bud H') → Q v H') : ta σ H Q := by
  rw [all_bind] at a
  exact h r Z σ H Q c (All.mono a (fun d h1 v Z' H' s e rr nd => by subst e; exact q d v Z' H' s rr nd (All.mono h1 (fun _ x => x) fun _ x => x.shift s)) fun _ x => x)
theorem RepRs.get {H Z' H' : Hp} : ∀ {vs : List V} {ds : List D} {k : Nat} {d : D}, RepRs g H Z' H' vs ds → ds[k]? = some d → ∃ v, vs[k]? = some v ∧ RepR g H Z' H' v d
  | _, _, _, _, .nil, e => by simp at e
  | _, _, 0, _, .cons r _, e => by simp at e; subst e; exact ⟨_, rfl, r⟩
  | _, _, k + 1, d, .cons _ t, e => by
    obtain ⟨v, h1, h2⟩ := RepRs.get (k := k) (d := d) t (by simpa using e)
    exact ⟨v, by simpa using h1, h2⟩
theorem SimO.first {ta : TO} {e : Env → T (Option Int)} (h : SimO g W ta e) {α : Type} {k : Option Int → T α} {P : Nat → α → Prop} {r : Env} {Z H : Hp} {σ : L2.St} {Q : Option Int → Hp → Prop} (c : Cfg g r Z σ H) (a : (e r >>= k).All P (PostE g Z H W) (g.bud H))
    (q : ∀ d Z' H', Step g Z H Z' H' → (k d).All P (PostE g Z' H' W) (g.bud H') → Q d H') : ta σ H Q := by
  rw [all_bind] at a
  exact h r Z σ H Q c (All.mono a (fun d h1 Z' H' s e => by subst e; exact q d Z' H' s (All.mono h1 (fun _ x => x) fun _ x => x.shift s)) fun _ x => x)
theorem post_shift {Z H Z1 H1 : Hp} {Q : VK} {t : T D} {E : Nat → Nat → Prop} {m : Nat} (s : Step g Z H Z1 H1) (h : t.All (Post g Z H Q) E m) : t.All (Post g Z1 H1 Q) E m := All.mono h (fun _ x => x.shift s) fun _ x => x

theorem sim_c {v : V} {d : D} (h : ∀ Z, Rep g Z v d) : SimE g W (tC v) fun _ => .ret d := fun r Z σ H Q c a => a.now c.pre (h Z)
theorem sim_var {i : Nat} : SimE g W (tVar i) fun r => getV r i := by
  intro r Z σ H Q c a
  unfold getV at a
  cases e : r[i]? with
  | none => simp only [e] at a; exact a.elim
  | some sl =>
    obtain ⟨o, e1, h⟩ := c.slot i sl e
    simp only [e] at a
    cases sl with
    | un => exact a.elim
    | val d =>
      obtain ⟨v, rfl, rv⟩ := h
      exact ⟨v, e1, Post.now c.pre a rv⟩
    | own xs =>
      obtain ⟨p, vs, rfl, h1, h2, h3, h4, h5⟩ := h
      exact ⟨_, e1, a _ Z H (.refl c.pre) rfl ⟨p, vs, rfl, h1, h2, h3, h4, h5⟩⟩
theorem sim_op {rr : R2} {f : D → D → T D} (h : OpS g rr f) (ha : SimE g W ta e1) (hb : SimE g W tb e2) : SimE g W (tOp rr ta tb) fun r => e1 r >>= fun x => e2 r >>= fun y => f x y := by
  intro r Z σ H Q c a
  refine ha.first c a fun x vx Z1 H1 s1 r1 a1 => ?_
  refine hb.first (c.step s1) a1 fun y vy Z2 H2 s2 r2 a2 => ?_
  exact h _ _ Z2 H2 x y vx vy Q _ s2.pre (r1.step s2) r2 (post_shift (s1.trans s2) a2)
theorem sim_cmp {rr : R2} {f : D → D → T Bool} (h : CmpS g rr f) (ha : SimE g W ta e1) (hb : SimE g W tb e2) : SimE g W (tOp rr ta tb) fun r => e1 r >>= fun x => e2 r >>= fun y => f x y >>= fun k => .ret (.bl k) := by
  intro r Z σ H Q c a
  refine ha.first c a fun x vx Z1 H1 s1 r1 a1 => ?_
  refine hb.first (c.step s1) a1 fun y vy Z2 H2 s2 r2 a2 => ?_
  rw [all_bind] at a2
  exact h _ _ Z2 H2 x y vx vy Q _ s2.pre (r1.step s2) r2 (All.mono a2 (fun k q e => by subst e; exact Post.now s2.pre (Post.shift (s1.trans s2) q) (.bl k)) fun _ x => x)
theorem sim_test (h : SimE g W ta e1) : SimB g W (tTest ta) fun r => e1 r >>= toB := by
  intro r Z σ H Q c a
  refine h.first c a fun x vx Z1 H1 s1 r1 a1 => ?_
  cases x <;> first
    | exact a1.elim
    | (cases r1; exact ⟨_, rfl, a1 Z1 H1 s1 rfl⟩)
theorem sim_neg (h : SimE g W ta e1) : SimE g W (tUn (rU fun i => .int (-i)) ta) fun r => e1 r >>= negT := by
  intro r Z σ H Q c a
  refine h.first c a fun x vx Z1 H1 s1 r1 a1 => ?_
  cases x <;> first
    | exact a1.elim
    | (cases r1; exact ⟨_, rfl, Post.now s1.pre (Post.shift s1 a1) (.int _)⟩)
theorem sim_chain {ro rp : R2} {fo fp : D → D → T Bool} (h : CmpS g ro fo) (h' : CmpS g rp fp) {e3 : Env → T D} (ha : SimE g W ta e1) (hb : SimE g W tb e2) (hc : SimE g W tc e3) :
    SimE g W (tChain ro rp ta tb tc) fun r => e1 r >>= fun x => e2 r >>= fun y => fo x y >>= fun k => if k = true then e3 r >>= fun z => fp y z >>= fun k => .ret (.bl k) else .ret (.bl false) := by
  intro r Z σ H Q c a
  refine ha.first c a fun x vx Z1 H1 s1 r1 a1 => ?_
  refine hb.first (c.step s1) a1 fun y vy Z2 H2 s2 r2 a2 => ?_
  rw [all_bind] at a2
  refine h _ _ Z2 H2 x y vx vy _ _ s2.pre (r1.step s2) r2 (All.mono a2 (fun k q e => ?_) fun _ x => x)
  subst e
  refine ⟨k, rfl, ?_⟩
  cases k with
  | false =>
    rw [if_neg Bool.false_ne_true] at q ⊢
    exact Post.now s2.pre (Post.shift (s1.trans s2) q) (.bl _)
  | true =>
    rw [if_pos rfl] at q ⊢
    refine hc.first ((c.step s1).step s2) q fun z vz Z3 H3 s3 r3 a3 => ?_
    rw [all_bind] at a3
    exact h' _ _ Z3 H3 y z vy vz Q _ s3.pre (r2.step s3) r3 (All.mono a3 (fun k q e => by subst e; exact Post.now s3.pre (Post.shift ((s1.trans s2).trans s3) q) (.bl k)) fun _ x => x)
theorem sim_andV (ha : SimE g W ta e1) (hb : SimE g W tb e2) : SimE g W (tAndV ta tb) fun r => e1 r >>= fun x => andT x (e2 r) := by
  intro r Z σ H Q c a
  refine ha.first c a fun x vx Z1 H1 s1 r1 a1 => ?_
  cases x with
  | bl k =>
    cases r1
    refine ⟨k, rfl, ?_⟩
    cases k with
    | false =>
      rw [if_neg Bool.false_ne_true]
      exact Post.now s1.pre (Post.shift s1 a1) (.bl _)
    | true =>
      rw [if_pos rfl]
      exact hb r Z1 σ H1 Q (c.step s1) (post_shift s1 a1)
  | _ => exact a1.elim
theorem sim_orV (ha : SimE g W ta e1) (hb : SimE g W tb e2) : SimE g W (tOrV ta tb) fun r => e1 r >>= fun x => orT x (e2 r) := by
  intro r Z σ H Q c a
  refine ha.first c a fun x vx Z1 H1 s1 r1 a1 => ?_
  cases x with
  | bl k =>
    cases r1
    refine ⟨k, rfl, ?_⟩
    cases k with
    | true =>
      rw [if_pos rfl]
      exact Post.now s1.pre (Post.shift s1 a1) (.bl _)
    | false =>
      rw [if_neg Bool.false_ne_true]
      exact hb r Z1 σ H1 Q (c.step s1) (post_shift s1 a1)
  | _ => exact a1.elim
theorem sim_notV (ha : SimE g W ta e1) : SimE g W (tNotV ta) fun r => e1 r >>= notT := by
  intro r Z σ H Q c a
  refine ha.first c a fun x vx Z1 H1 s1 r1 a1 => ?_
  cases x with
  | bl k =>
    cases r1
    exact ⟨k, rfl, Post.now s1.pre (Post.shift s1 a1) (.bl _)⟩
  | _ => exact a1.elim
theorem sim_if (ht : SimB g W tt b) (ha : SimE g W ta e1) (hb : SimE g W tb e2) : SimE g W (tIf tt ta tb) fun r => b r >>= fun k => if k = true then e1 r else e2 r := by
  intro r Z σ H Q c a
  refine ht.first c a fun k Z1 H1 s1 a1 => ?_
  cases k with
  | true =>
    rw [if_pos rfl] at a1 ⊢
    exact ha r Z1 σ H1 Q (c.step s1) (post_shift s1 a1)
  | false =>
    rw [if_neg Bool.false_ne_true] at a1 ⊢
    exact hb r Z1 σ H1 Q (c.step s1) (post_shift s1 a1)
theorem postB_shift {Z H Z1 H1 : Hp} {Q : Bool → Hp → Prop} {t : T Bool} {E : Nat → Nat → Prop} {m : Nat} (s : Step g Z H Z1 H1) (h : t.All (PostB g Z H Q) E m) : t.All (PostB g Z1 H1 Q) E m := All.mono h (fun _ x Z' H' t e => x Z' H' (s.trans t) e) fun _ x => x
theorem sim_andT (ha : SimB g W tt b) (hb : SimB g W tu c) : SimB g W (tAnd tt tu) fun r => b r >>= fun k => if k = true then c r else .ret false := by
  intro r Z σ H Q cf a
  refine ha.first cf a fun k Z1 H1 s1 a1 => ?_
  cases k with
  | true =>
    rw [if_pos rfl] at a1 ⊢
    exact hb r Z1 σ H1 Q (cf.step s1) (postB_shift s1 a1)
  | false =>
    rw [if_neg Bool.false_ne_true] at a1 ⊢
    exact a1 Z1 H1 s1 rfl
theorem sim_orT (ha : SimB g W tt b) (hb : SimB g W tu c) : SimB g W (tOr tt tu) fun r => b r >>= fun k => if k = true then .ret true else c r := by
  intro r Z σ H Q cf a
  refine ha.first cf a fun k Z1 H1 s1 a1 => ?_
  cases k with
  | true =>
    rw [if_pos rfl] at a1 ⊢
    exact a1 Z1 H1 s1 rfl
  | false =>
    rw [if_neg Bool.false_ne_true] at a1 ⊢
    exact hb r Z1 σ H1 Q (cf.step s1) (postB_shift s1 a1)
theorem sim_notT (ha : SimB g W tt b) : SimB g W (tNot tt) fun r => b r >>= fun k => .ret (!k) := by
  intro r Z σ H Q cf a
  exact ha.first cf a fun k Z1 H1 s1 a1 => a1 Z1 H1 s1 rfl
theorem sim_nilA : SimA g W tNil fun _ => .ret [] := fun r Z σ H Q c a => a [] Z H (.refl c.pre) rfl .nil
theorem sim_consA {tr : TA} {e2 : Env → T (List D)} (ha : SimE g W ta e1) (hb : SimA g W tr e2) : SimA g W (tCons ta tr) fun r => e1 r >>= fun x => fz x >>= fun x => e2 r >>= fun xs => .ret (x :: xs) := by
  intro r Z σ H Q c a
  refine ha.first0 c a fun x vx Z1 H1 s1 r1 a1 => ?_
  rw [all_bind] at a1
  obtain ⟨x', Z2, a2, s2, _, r2⟩ := fz_ok s1 r1 a1
  refine hb.first (c.step s2) (allE_shift s2 a2) fun xs vs Z3 H3 s3 r3 a3 => ?_
  exact a3 (vx :: vs) Z3 H3 (s2.trans s3) rfl (.cons (r2.mono s3.z) r3)
theorem sim_nilR : SimR g W tNil fun _ => .ret [] := fun r Z σ H Q c a => a [] Z H (.refl c.pre) rfl .nil trivial
theorem sim_consR {tr : TA} {e2 : Env → T (List D)} (ha : SimE g W ta e1) (hb : SimR g W tr e2) : SimR g W (tCons ta tr) fun r => e1 r >>= fun x => e2 r >>= fun xs => .ret (x :: xs) := by
  intro r Z σ H Q c a
  refine ha.first c a fun x vx Z1 H1 s1 r1 a1 => ?_
  refine hb.first (c.step s1) a1 fun xs vs Z3 H3 s3 r3 nd a3 => ?_
  refine a3 (vx :: vs) Z3 H3 (s1.trans s3) rfl (.cons (r1.step s3) (r3.back s1)) ⟨fun us e k ys hk hv => ?_, nd⟩
  subst e
  obtain ⟨p, ws, rfl, h1, _⟩ := r1
  obtain ⟨v, q1, q2⟩ := r3.get hk
  rw [hv] at q1; cases q1
  obtain ⟨p2, ws2, e2, _, _, _, _, h5, _⟩ := q2
  cases e2
  rw [h1] at h5; cases h5
theorem sim_tup {ta : TA} {e1 : Env → T (List D)} (ha : SimA g W ta e1) : SimE g W (tTup ta) fun r => e1 r >>= fun ds => lenT ds (.tup ds) := by
  intro r Z σ H Q c a
  refine ha.first c a fun x vx Z1 H1 s1 r1 a1 => ?_
  unfold lenT at a1
  split at a1
  · rename_i l
    have hl : vx.length ≤ sizeLine := by rw [r1.length, sizeLine_eq]; omega
    exact ⟨hl, fun p hp => Post.newT s1.pre (Post.shift s1 a1) r1 hl hp⟩
  · exact a1.elim
theorem sim_lst {ta : TA} {e1 : Env → T (List D)} (ha : SimA g W ta e1) : SimE g W (tLst ta) fun r => e1 r >>= fun ds => lenT ds (.new ds) := by
  intro r Z σ H Q c a
  refine ha.first c a fun x vx Z1 H1 s1 r1 a1 => ?_
  unfold lenT at a1
  split at a1
  · rename_i l
    have hl : vx.length ≤ sizeLine := by rw [r1.length, sizeLine_eq]; omega
    exact ⟨hl, fun p hp => Post.newL s1.pre (Post.shift s1 a1) r1 hl hp⟩
  · exact a1.elim
theorem sim_noPart : SimO g W tNoPart fun _ => .ret none := fun r Z σ H Q c a => a Z H (.refl c.pre) rfl
theorem sim_part (ha : SimE g W ta e1) : SimO g W (tPart ta) fun r => e1 r >>= partT := by
  intro r Z σ H Q c a
  refine ha.first c a fun x vx Z1 H1 s1 r1 a1 => ?_
  cases x <;> first
    | exact a1.elim
    | (cases r1; exact ⟨_, rfl, a1 Z1 H1 s1 rfl⟩)
theorem sim_slc {tl th : TO} {lo hi : Env → T (Option Int)} (ha : SimE g W ta e1) (hl : SimO g W tl lo) (hh : SimO g W th hi) :
    SimE g W (tSl (fun x lo hi H Q => rSlL g.K x lo hi H Q ∨ rSlA g.K x lo hi H Q) ta tl th) fun r => e1 r >>= fun x => lo r >>= fun l => hi r >>= fun h => slcT x l h := by
  intro r Z σ H Q c a
  refine ha.first c a fun x vx Z1 H1 s1 r1 a1 => ?_
  refine hl.first (c.step s1) a1 fun l Z2 H2 s2 a2 => ?_
  refine hh.first ((c.step s1).step s2) a2 fun h Z3 H3 s3 a3 => ?_
  exact slc_ok s3.pre ((r1.step s2).step s3) (post_shift ((s1.trans s2).trans s3) a3)
theorem sim_blt {rr : List V → Hp → VK → Prop} {f : List D → T D} {ta : TA} {e1 : Env → T (List D)} (h : BltS g rr f) (ha : SimR g W ta e1) : SimE g W (tCB rr ta) fun r => e1 r >>= fun ds => f ds := by
  intro r Z σ H Q c a
  refine ha.first c a fun x vx Z1 H1 s1 r1 _ a1 => ?_
  exact h _ Z1 H1 x vx Q _ s1.pre r1 (post_shift s1 a1)
theorem sim_isk {tn : String} {k : D → Option Bool} (o : KOk tn k) (ha : SimE g W ta e1) : SimE g W (tCB (rIsi g.K) (tCons ta (tCons (tC (.ty tn)) tNil))) fun r => e1 r >>= fun x => isKind k [x] := by
  intro r Z σ H Q c a
  refine ha.first c a fun x vx Z1 H1 s1 r1 a1 => ?_
  exact isKind_ok o s1.pre r1 (post_shift s1 a1)
/-- what a def promises -/
def spD (g : G) (call : Nat → List D → T D) (k : Nat) : Sp := fun vs H Q E => ∃ Z ds, Pre g Z H ∧ Reps g Z vs ds ∧ (call k ds).All (Post g Z H Q) (fun m c => ∀ Z' H', Step g Z H Z' H' → g.bud H' = m → E (.ref (g.cad c)) none H') (g.bud H)
def eW (g : G) (W : Nat → Hp → Prop) : XK := fun cls d H => ∃ c, cls = .ref (g.cad c) ∧ d = none ∧ W c H
theorem sim_call {call : Nat → List D → T D} {k : Nat} {ta : TA} {e1 : Env → T (List D)} (ha : SimA g W ta e1) : SimE g W (tCall (spD g call k) [] (eW g W) ta) fun r => e1 r >>= fun ds => call k ds := by
  intro r Z σ H Q c a
  refine ha.first c a fun x vx Z1 H1 s1 r1 a1 => ?_
  refine ⟨Z1, x, s1.pre, by rw [List.append_nil]; exact r1, All.mono a1 (fun d q => q.shift s1) fun c q Z' H' t e => ⟨c, rfl, rfl, q Z' H' t e⟩⟩

def tCallP (sp : Sp) (perm : List Nat) (E : XK) (t : TA) : TE := fun σ H Q => t σ H fun zs H2 => ∃ ys, permD perm zs = some ys ∧ sp ys H2 Q E
theorem permL_reps {Z : Hp} {vs : List V} {ds : List D} (r : Reps g Z vs ds) : ∀ {perm : List Nat} {es : List D}, permL perm ds = some es → ∃ us, permL perm vs = some us ∧ Reps g Z us es
  | [], es, h => by cases h; exact ⟨[], rfl, .nil⟩
  | i :: is, es, h => by
    unfold permL at h
    split at h
    · rename_i x ys h1 h2
      cases h
      obtain ⟨us, k1, k2⟩ := permL_reps r (perm := is) h2
      obtain ⟨v, k3, k4⟩ := r.get h1
      refine ⟨v :: us, ?_, .cons k4 k2⟩
      unfold permL
      rw [k3, k1]
    · cases h
theorem sim_callP {call : Nat → List D → T D} {k : Nat} {perm : List Nat} {ta : TA} {e1 : Env → T (List D)} (ha : SimA g W ta e1) : SimE g W (tCallP (spD g call k) perm (eW g W) ta) fun r => e1 r >>= fun ds => ofO (permD perm ds) >>= fun ds => call k ds := by
  intro r Z σ H Q c a
  refine ha.first c a fun x vx Z1 H1 s1 r1 a1 => ?_
  cases h : permD perm x with
  | none => rw [h] at a1; exact a1.elim
  | some es =>
    rw [h] at a1
    unfold permD at h
    split at h
    · rename_i hl
      obtain ⟨us, k1, k2⟩ := permL_reps r1 h
      refine ⟨us, (by unfold permD; rw [r1.length, if_pos hl]; exact k1), Z1, es, s1.pre, k2, All.mono a1 (fun d q => q.shift s1) fun c q Z' H' t e => ⟨c, rfl, rfl, q Z' H' t e⟩⟩
    · cases h
/-! ### what is walked -/
theorem walkD_seq {Z : Hp} {a : Addr} {vs : List V} {ds : List D} (r : Reps g Z vs ds) : ((∀ H, Sub Z H → SqL g.K H a vs) → WalkD g (Itl g.K a) Z ds) ∧ ((∀ H, Sub Z H → SqT g.K H a vs) → WalkD g (Itt g.K a) Z ds) := by
  have key : ∀ (i : Nat) (Z1 H : Hp) (x : V) (H' : Hp), i < ds.length → Sub Z Z1 → Pre g Z1 H → YAt vs i H x H' → ∃ Z' d, ds[i]? = some d ∧ Step g Z1 H Z' H' ∧ g.bud H' = g.bud H ∧ Rep g Z' x d := fun i Z1 H x H' hi sz p y => by
    obtain ⟨e, y⟩ := y
    subst e
    obtain ⟨v, h1, h2⟩ := r.get (List.getElem?_eq_getElem hi)
    rw [h1] at y; cases y
    exact ⟨Z1, _, List.getElem?_eq_getElem hi, .refl p, rfl, h2.mono sz⟩
  refine ⟨fun h => ⟨_, _, by rw [← r.length]; exact walk_list, h, key⟩, fun h => ⟨_, _, by rw [← r.length]; exact walk_tup, h, key⟩⟩
theorem frozen_ok {Z H Z1 H1 : Hp} {v : V} {d : D} {ds : List D} (s : Step g Z H Z1 H1) (r : RepR g H Z1 H1 v d) (h : frozen d = some ds) :
    ∃ a vs Z2, v = .ref a ∧ Step g Z H Z2 H1 ∧ Reps g Z2 vs ds ∧ vs.length ≤ sizeLine ∧ (((∀ H, Sub Z2 H → SqL g.K H a vs) ∧ SqL g.K H1 a vs) ∨ ((∀ H, Sub Z2 H → SqT g.K H a vs) ∧ SqT g.K H1 a vs)) := by
  cases d <;> simp [frozen] at h
  · subst h
    cases r with
    | tup h1 h2 h3 => exact ⟨_, _, Z1, rfl, s, h3, h2, .inr ⟨fun H e => .of (e _ _ h1), .of (s.zh _ _ h1)⟩⟩
  · subst h
    cases r with
    | lst h1 h2 h3 => exact ⟨_, _, Z1, rfl, s, h3, h2, .inl ⟨fun H e => .of (e _ _ h1), .of (s.zh _ _ h1)⟩⟩
  · subst h
    cases r with
    | scr h1 h2 => exact ⟨_, _, Z1, rfl, s, Reps.ofInts _, by rw [List.length_map, sizeLine_eq]; omega, .inl ⟨fun H e => sq_sub e h1, sq_sub s.zh h1⟩⟩
  · subst h
    obtain ⟨a, vs, rfl, h1, h2, h3, h4, h5, h6⟩ := r
    exact ⟨a, vs, upd Z1 a (.lst vs), rfl, s.freeze h5 h1 h4 h3, h6.mono (sub_new h4), h2, .inl ⟨fun H e => .of (e _ _ upd_same), .of h1⟩⟩
/-- a list or a tuple, walked -/
def iSeq (K : PySem.W.Frag) (tl : TE) : TI := fun σ H R => tl σ H fun x H1 => ∃ a, x = .ref a ∧ (((∃ xs, SqL K H1 a xs) ∧ R (Itl K a) H1) ∨ ((∃ xs, SqT K H1 a xs) ∧ R (Itt K a) H1))
theorem pi_seq {C : Cx} {tg l : Expr} {tl : TE} (hl : PE C l tl) : PI C tg l (iSeq C.K tl) := by
  refine ⟨fun pins s σ H R I h => ?_⟩
  refine thn (hl.run pins s σ H _ I h) fun v s1 ⟨x, H1, I1, r1, q1⟩ => ?_
  obtain ⟨a, e, q⟩ := q1
  subst e
  cases r1
  rcases q with ⟨⟨xs, hq⟩, q⟩ | ⟨⟨xs, hq⟩, q⟩
  · obtain ⟨its, rv, p, hz⟩ := I1.list hq
    refine wpAny_pyIter_list p.isList ?_
    refine ⟨s1.heap.objs.size, [s1.heap.objs.size], _, _, H1, rfl, I1.kept (t' := s1.toks) fun b o e => Heap.get?_push_of_some _ e, turn_list a _, ⟨_, Heap.get?_push_size _ rfl, rfl, rfl⟩, fun b hb => ?_, q⟩
    have e : b = s1.heap.objs.size := by simpa using hb
    subst e
    exact I1.fpOk (Nat.le_refl _) (I1.hok.fresh (Nat.le_refl _))
  · obtain ⟨its, rv, p, hz⟩ := I1.tuple hq
    refine wpAny_pyIter_tuple (show s1.heap.IsTuple a its.toArray from p) ?_
    refine ⟨s1.heap.objs.size, [s1.heap.objs.size], _, _, H1, rfl, I1.kept (t' := s1.toks) fun b o e => Heap.get?_push_of_some _ e, turn_tuple a _, ⟨_, Heap.get?_push_size _ rfl, rfl, rfl⟩, fun b hb => ?_, q⟩
    have e : b = s1.heap.objs.size := by simpa using hb
    subst e
    exact I1.fpOk (Nat.le_refl _) (I1.hok.fresh (Nat.le_refl _))
theorem ofO_ok {α : Type} {o : Option α} {P : Nat → α → Prop} {E : Nat → Nat → Prop} {m : Nat} (h : (ofO o).All P E m) : ∃ x, o = some x ∧ P m x := by
  cases o with
  | none => exact h.elim
  | some x => exact ⟨x, rfl, h⟩
theorem simI_seq (ha : SimE g W ta e1) : SimI g W (iSeq g.K ta) fun r => e1 r >>= fun v => ofO (frozen v) := by
  intro r Z σ H R c a
  refine ha.first0 c a fun x vx Z1 H1 s1 r1 a1 => ?_
  obtain ⟨ds, e, a2⟩ := ofO_ok a1
  obtain ⟨p, vs, Z2, rfl, s2, h1, h2, h3⟩ := frozen_ok s1 r1 e
  have hl : ds.length ≤ sizeLine := by rw [← h1.length]; exact h2
  refine ⟨p, rfl, ?_⟩
  rcases h3 with ⟨h3, h4⟩ | ⟨h3, h4⟩
  · exact .inl ⟨⟨vs, h4⟩, a2 _ Z2 H1 s2 rfl ((walkD_seq h1).1 h3) hl⟩
  · exact .inr ⟨⟨vs, h4⟩, a2 _ Z2 H1 s2 rfl ((walkD_seq h1).2 h3) hl⟩
theorem rngI_ok {lo hi : Int} {P : Nat → List D → Prop} {E : Nat → Nat → Prop} {m : Nat} (h : (rngI lo hi).All P E m) : (-(2 ^ 62) ≤ lo ∧ lo < 2 ^ 62 ∧ -(2 ^ 62) ≤ hi ∧ hi < 2 ^ 62) ∧ (hi - lo).toNat ≤ sizeLine ∧ P m ((List.range (hi - lo).toNat).map fun k => .int (lo + (k : Nat))) := by
  unfold rngI at h
  split at h
  · rename_i q
    have q := of_decide_eq_true q
    exact ⟨⟨q.1, q.2.1, q.2.2.1, q.2.2.2.1⟩, by rw [← limLine]; exact q.2.2.2.2, h⟩
  · exact h.elim
theorem walkD_rng {Z : Hp} {lo : Int} {n : Nat} : WalkD g (Itr lo n) Z ((List.range n).map fun k => .int (lo + (k : Nat))) := by
  refine ⟨_, _, by rw [List.length_map, List.length_range]; exact walk_range, fun _ _ => trivial, fun i Z1 H x H' hi _ p y => ?_⟩
  obtain ⟨e, y⟩ := y
  subst e y
  rw [List.length_map, List.length_range] at hi
  refine ⟨Z1, _, ?_, .refl p, rfl, .int _⟩
  rw [List.getElem?_map, List.getElem?_range hi]
  rfl
theorem simI_cap {ti : TI} {e : Env → T (List D)} (h : SimI g W ti e) : SimI g W ti fun r => e r >>= fun ds => if ds.length ≤ lim then .ret ds else .bad := by
  intro r Z σ H R c a
  rw [all_bind] at a
  refine h r Z σ H R c (All.mono a (fun ds q => ?_) fun _ x => x)
  split at q
  · exact q
  · exact q.elim
theorem simI_rng1 (ha : SimE g W ta e1) : SimI g W (iRng1 (tCons ta tNil)) fun r => e1 r >>= rng1T := by
  intro r Z σ H R c a
  refine ha.first0 c a fun x vx Z1 H1 s1 r1 a1 => ?_
  cases x <;> first
    | exact a1.elim
    | skip
  cases r1
  rename_i j
  obtain ⟨b1, b2, a2⟩ := rngI_ok a1
  refine ⟨j, rfl, b1.2.2.1, b1.2.2.2, ?_⟩
  have e : (j - 0).toNat = j.toNat := by rw [Int.sub_zero]
  rw [e] at a2 b2
  exact a2 _ Z1 H1 s1 rfl walkD_rng (by rw [List.length_map, List.length_range]; exact b2)
theorem simI_rng2 (ha : SimE g W ta e1) (hb : SimE g W tb e2) : SimI g W (iRng2 (tCons ta (tCons tb tNil))) fun r => e1 r >>= fun x => e2 r >>= fun y => rng2T x y := by
  intro r Z σ H R c a
  refine ha.first c a fun x vx Z1 H1 s1 r1 a1 => ?_
  refine hb.first (c.step s1) a1 fun y vy Z2 H2 s2 r2 a2 => ?_
  cases x <;> first
    | exact a2.elim
    | skip
  cases y <;> first
    | exact a2.elim
    | skip
  cases r1
  cases r2
  rename_i i j
  obtain ⟨b1, b2, a3⟩ := rngI_ok a2
  refine ⟨i, j, rfl, b1, ?_⟩
  exact a3 _ Z2 H2 (s1.trans s2) rfl walkD_rng (by rw [List.length_map, List.length_range]; exact b2)
theorem pair_step {Z Z1 H H' : Hp} {v : V} {T : Addr} {x y : V} {d e : D} (p : Pre g Z1 H) (sz : Sub Z Z1) (h1 : v = .ref T) (h2 : H T = none) (h3 : H' = upd H T (.tup [x, y])) (rx : Rep g Z x d) (ry : Rep g Z y e) :
    ∃ Z', Step g Z1 H Z' H' ∧ g.bud H' = g.bud H ∧ Rep g Z' v (.tup [d, e]) := by
  subst h1 h3
  have sz' : Sub Z (upd Z1 T (.tup [x, y])) := fun a o h => sub_new (p.nZ h2) a o (sz a o h)
  exact ⟨_, .newZ p h2, bud_upd p (p.nF h2), .tup upd_same (by rw [sizeLine_eq]; show 2 ≤ 16777216; decide) (.cons (rx.mono sz') (.cons (ry.mono sz') .nil))⟩
theorem walk_zipT {K : PySem.W.Frag} {a b : Addr} {xs ys : List V} {n : Nat} (hn : n = min xs.length ys.length) : Walk (RZ.ItzT K a b) n (fun H => SqT K H a xs ∧ SqT K H b ys) (YPair (fun i => xs[i]?) (fun i => ys[i]?)) := by
  subst hn
  refine ⟨fun i _ hi q => ?_, fun _ q => ⟨xs, ys, q.1, q.2, by omega⟩, fun i H v H' _ q y => ?_⟩
  · have h1 : i < xs.length := by omega
    have h2 : i < ys.length := by omega
    exact ⟨xs, ys, xs[i], ys[i], q.1, q.2, by simp [h1], by simp [h2]⟩
  · obtain ⟨T, x, z, h1, h2, h3, h4, h5⟩ := y
    exact ⟨T, x, z, h1, h2, h3, h4 xs q.1, h5 ys q.2⟩
theorem zip_key {Z : Hp} {vs ws : List V} {ds es : List D} (r1 : Reps g Z vs ds) (r2 : Reps g Z ws es) : ∀ (i : Nat) (Z1 H : Hp) (x : V) (H' : Hp), i < ((ds.zip es).map fun p => D.tup [p.1, p.2]).length → Sub Z Z1 → Pre g Z1 H → YPair (fun i => vs[i]?) (fun i => ws[i]?) i H x H' →
    ∃ Z' d, ((ds.zip es).map fun p => D.tup [p.1, p.2])[i]? = some d ∧ Step g Z1 H Z' H' ∧ g.bud H' = g.bud H ∧ Rep g Z' x d := fun i Z1 H x H' hi sz p y => by
  obtain ⟨T, x1, x2, h1, h2, h3, h4, h5⟩ := y
  rw [List.length_map, List.length_zip] at hi
  have i1 : i < ds.length := by omega
  have i2 : i < es.length := by omega
  obtain ⟨v1, q1, k1⟩ := r1.get (List.getElem?_eq_getElem i1)
  obtain ⟨v2, q2, k2⟩ := r2.get (List.getElem?_eq_getElem i2)
  have h4 : vs[i]? = some x1 := h4
  have h5 : ws[i]? = some x2 := h5
  rw [q1] at h4; cases h4
  rw [q2] at h5; cases h5
  obtain ⟨Z', s, eb, rr⟩ := pair_step p sz h1 h2 h3 k1 k2
  refine ⟨Z', _, ?_, s, eb, rr⟩
  rw [List.getElem?_map, List.getElem?_zip_eq_some (z := (ds[i], es[i])).mpr ⟨List.getElem?_eq_getElem i1, List.getElem?_eq_getElem i2⟩]
  rfl
theorem frozenL_ok {Z H Z1 H1 : Hp} {v : V} {d : D} {ds : List D} (s : Step g Z H Z1 H1) (r : RepR g H Z1 H1 v d) (h : frozenL d = some ds) :
    ∃ a vs Z2, v = .ref a ∧ Step g Z H Z2 H1 ∧ Reps g Z2 vs ds ∧ vs.length ≤ sizeLine ∧ Z2 a = some (.lst vs) ∧ Sub Z1 Z2 := by
  cases d <;> simp [frozenL] at h
  · subst h
    cases r with
    | lst h1 h2 h3 => exact ⟨_, _, Z1, rfl, s, h3, h2, h1, fun _ _ e => e⟩
  · subst h
    obtain ⟨a, vs, rfl, h1, h2, h3, h4, h5, h6⟩ := r
    exact ⟨a, vs, upd Z1 a (.lst vs), rfl, s.freeze h5 h1 h4 h3, h6.mono (sub_new h4), h2, upd_same, sub_new h4⟩
theorem simI_zip (ha : SimE g W ta e1) (hb : SimE g W tb e2) : SimI g W (RZ.iZipA g.K (tCons ta (tCons tb tNil))) fun r => e1 r >>= fun x => e2 r >>= fun y => ofO (zipD x y) := by
  intro r Z σ H R c a
  refine ha.first0 c a fun x vx Z1 H1 s1 r1 a1 => ?_
  -- the first one, frozen at once
  have a1' := allE_shift s1 a1
  refine hb.first0 (c.step s1) a1' fun y vy Z2 H2 s2 r2 a2 => ?_
  obtain ⟨ds, e, a3⟩ := ofO_ok a2
  have st := s1.trans s2
  have rx := r1.step s2
  have ry := r2.back s1
  have fin : ∀ {xs ys : List D}, frozenL x = some xs → frozenL y = some ys → ds = (xs.zip ys).map (fun p => D.tup [p.1, p.2]) → ∃ a b vs ws, [vx, vy] = [.ref a, .ref b] ∧ ((SqL g.K H2 a vs ∧ SqL g.K H2 b ws ∧ R (Itz g.K a b) H2) ∨ (SqT g.K H2 a vs ∧ SqT g.K H2 b ws ∧ R (RZ.ItzT g.K a b) H2)) := fun {xs ys} f1 f2 ed => by
    subst ed
    obtain ⟨p, vs, Z3, rfl, s3, k1, k2, k3, k4⟩ := frozenL_ok st rx f1
    have ry3 : ∃ q ws Z4, vy = .ref q ∧ Step g Z H Z4 H2 ∧ Reps g Z4 ws ys ∧ ws.length ≤ sizeLine ∧ Z4 q = some (.lst ws) ∧ Sub Z3 Z4 := by
      cases y <;> simp [frozenL] at f2
      · subst f2
        cases ry with
        | lst h1 h2 h3 => exact ⟨_, _, Z3, rfl, s3, h3.mono k4, h2, k4 _ _ h1, fun _ _ e => e⟩
      · subst f2
        obtain ⟨q, ws, rfl, h1, h2, h3, h4, h5, h6⟩ := ry
        by_cases hz : Z3 q = none
        · exact ⟨q, ws, upd Z3 q (.lst ws), rfl, s3.freeze h5 h1 hz h3, (h6.mono k4).mono (sub_new hz), h2, upd_same, sub_new hz⟩
        · obtain ⟨u, hu⟩ : ∃ u, Z3 q = some u := by
            rcases none_or (H := Z3) (a := q) with e | e
            · exact absurd e hz
            · exact e
          have e2 := s3.zh _ _ hu
          rw [h1] at e2; cases e2
          exact ⟨q, ws, Z3, rfl, s3, h6.mono k4, h2, hu, fun _ _ e => e⟩
    obtain ⟨q, ws, Z4, rfl, s4, m1, m2, m3, m4⟩ := ry3
    refine ⟨p, q, vs, ws, rfl, .inl ⟨.of (s4.zh _ _ (m4 _ _ k3)), .of (s4.zh _ _ m3), a3 _ Z4 H2 s4 rfl ?_ ?_⟩⟩
    · refine ⟨_, _, walk_zip (n := _) (xs := vs) (ys := ws) ?_, fun H e => ⟨.of (e _ _ (m4 _ _ k3)), .of (e _ _ m3)⟩, zip_key (k1.mono m4) m1⟩
      rw [List.length_map, List.length_zip, k1.length, m1.length]
    · rw [List.length_map, List.length_zip, ← k1.length, ← m1.length]; omega
  unfold zipD at e
  split at e
  · cases e
    cases rx with
    | tup b1 b2 b3 =>
      cases ry with
      | tup d1 d2 d3 =>
        refine ⟨_, _, _, _, rfl, .inr ⟨.of (st.zh _ _ b1), .of (st.zh _ _ d1), a3 _ Z2 H2 st rfl ?_ ?_⟩⟩
        · refine ⟨_, _, walk_zipT (n := _) ?_, fun H e => ⟨.of (e _ _ b1), .of (e _ _ d1)⟩, zip_key b3 d3⟩
          rw [List.length_map, List.length_zip, b3.length, d3.length]
        · rw [List.length_map, List.length_zip, ← b3.length, ← d3.length]; omega
  · split at e
    · rename_i f1 f2
      cases e
      exact fin f1 f2 rfl
    · cases e
theorem enumD_get : ∀ (ds : List D) (j i : Nat) (d : D), ds[i]? = some d → (enumD j ds)[i]? = some (.tup [.int ((j + i : Nat) : Int), d])
  | [], _, _, _, h => by simp at h
  | d :: ds, j, 0, e, h => by
    simp at h
    subst h
    rfl
  | d :: ds, j, i + 1, e, h => by
    unfold enumD
    rw [List.getElem?_cons_succ] at h ⊢
    rw [enumD_get ds (j + 1) i e h, show j + 1 + i = j + (i + 1) by omega]
theorem enumD_length : ∀ (ds : List D) (j : Nat), (enumD j ds).length = ds.length
  | [], _ => rfl
  | d :: ds, j => congrArg Nat.succ (enumD_length ds (j + 1))
theorem simI_enum (ha : SimE g W ta e1) : SimI g W (iEnum g.K (tCons ta tNil)) fun r => e1 r >>= fun x => ofO ((frozenL x).map (enumD 0)) := by
  intro r Z σ H R c a
  refine ha.first0 c a fun x vx Z1 H1 s1 r1 a1 => ?_
  obtain ⟨ds, e, a2⟩ := ofO_ok a1
  obtain ⟨xs, f1, rfl⟩ := Option.map_eq_some_iff.mp e
  obtain ⟨p, vs, Z3, rfl, s3, k1, k2, k3, k4⟩ := frozenL_ok s1 r1 f1
  refine ⟨p, vs, rfl, .of (s3.zh _ _ k3), a2 _ Z3 H1 s3 rfl ?_ ?_⟩
  · refine ⟨_, _, by rw [enumD_length, ← k1.length]; exact walk_enum, fun H e => SqL.of (e _ _ k3), fun i Z1' H x H' hi sz p y => ?_⟩
    obtain ⟨T, x1, x2, h1, h2, h3, h4, h5⟩ := y
    rw [enumD_length] at hi
    obtain ⟨v2, q2, m2⟩ := k1.get (List.getElem?_eq_getElem hi)
    have h5 : vs[i]? = some x2 := h5
    rw [q2] at h5; cases h5
    cases (show some (V.int (i : Nat)) = some x1 from h4)
    obtain ⟨Z', s, eb, rr⟩ := pair_step p sz h1 h2 h3 (.int (i : Nat)) m2
    refine ⟨Z', _, enumD_get xs 0 i _ (List.getElem?_eq_getElem hi), s, eb, ?_⟩
    rw [Nat.zero_add]
    exact rr
  · rw [enumD_length, ← k1.length]; exact k2
end
end PV
end
section
set_option maxHeartbeats 4000000
/-! PvS4: targets, comprehensions, each expression by its term. -/
namespace PV
open PySem PySem.Spec PyProof.Rows L2
variable {g : G}

/-! ### targets -/
theorem wipe_get (σ : L2.St) (k : Nat) : ∀ vs : List Nat, (wipe σ vs)[k]? = if k ∈ vs then σ[k]?.map (fun _ => none) else σ[k]?
  | [] => by simp [wipe]
  | v :: vs => by
    unfold wipe
    rw [List.getElem?_set, wipe_get σ k vs]
    have hl := wipe_length σ vs
    by_cases h : v = k
    · subst h
      rw [if_pos rfl, if_pos List.mem_cons_self]
      by_cases hk : v < σ.length
      · rw [if_pos (by rw [hl]; exact hk), List.getElem?_eq_getElem hk]; rfl
      · rw [if_neg (by rw [hl]; exact hk), List.getElem?_eq_none (by omega)]; rfl
    · rw [if_neg h]
      by_cases hk : k ∈ vs
      · rw [if_pos hk, if_pos (List.mem_cons_of_mem _ hk)]
      · rw [if_neg hk, if_neg (by rw [List.mem_cons]; exact fun e => e.elim (fun e => h e.symm) hk)]
theorem wipeE_len (r : Env) : ∀ vs : List Nat, (wipeE r vs).length = r.length
  | [] => rfl
  | v :: vs => by unfold wipeE; rw [List.length_set, wipeE_len r vs]
theorem wipeE_get (r : Env) (k : Nat) : ∀ vs : List Nat, (wipeE r vs)[k]? = if k ∈ vs then r[k]?.map (fun _ => Sl.un) else r[k]?
  | [] => by simp [wipeE]
  | v :: vs => by
    unfold wipeE
    rw [List.getElem?_set, wipeE_get r k vs]
    have hl := wipeE_len r vs
    by_cases h : v = k
    · subst h
      rw [if_pos rfl, if_pos List.mem_cons_self]
      by_cases hk : v < r.length
      · rw [if_pos (by rw [hl]; exact hk), List.getElem?_eq_getElem hk]; rfl
      · rw [if_neg (by rw [hl]; exact hk), List.getElem?_eq_none (by omega)]; rfl
    · rw [if_neg h]
      by_cases hk : k ∈ vs
      · rw [if_pos hk, if_pos (List.mem_cons_of_mem _ hk)]
      · rw [if_neg hk, if_neg (by rw [List.mem_cons]; exact fun e => e.elim (fun e => h e.symm) hk)]
theorem wipe_set {σ : L2.St} {i : Nat} {v : Option V} {vs : List Nat} (h : i ∈ vs) : wipe (σ.set i v) vs = wipe σ vs := by
  apply List.ext_getElem?
  intro k
  rw [wipe_get, wipe_get, List.getElem?_set]
  by_cases hk : k ∈ vs
  · rw [if_pos hk, if_pos hk]
    by_cases e : i = k
    · subst e
      rw [if_pos rfl]
      by_cases hl : i < σ.length
      · rw [if_pos hl, List.getElem?_eq_getElem hl]; rfl
      · rw [if_neg hl, List.getElem?_eq_none (by omega)]
    · rw [if_neg e]
  · rw [if_neg hk, if_neg hk, if_neg fun e => hk (by rw [← e]; exact h)]
theorem wipe_wipe {σ : L2.St} {vs : List Nat} : wipe (wipe σ vs) vs = wipe σ vs := by
  apply List.ext_getElem?
  intro k
  rw [wipe_get, wipe_get]
  by_cases hk : k ∈ vs
  · rw [if_pos hk, if_pos hk, Option.map_map]; rfl
  · rw [if_neg hk, if_neg hk]
theorem Cfg.wipe {r : Env} {Z H : Hp} {σ : L2.St} (c : Cfg g r Z σ H) (vs : List Nat) : Cfg g (wipeE r vs) Z (L2.wipe σ vs) H := by
  refine ⟨c.pre, by rw [wipeE_len, wipe_length]; exact c.len, fun i s e => ?_⟩
  rw [wipeE_get] at e
  rw [wipe_get]
  by_cases hk : i ∈ vs
  · rw [if_pos hk] at e ⊢
    cases q : r[i]? with
    | none => rw [q] at e; cases e
    | some s0 =>
      rw [q] at e
      cases e
      obtain ⟨o, h1, _⟩ := c.slot i s0 q
      exact ⟨none, by rw [h1]; rfl, trivial⟩
  · rw [if_neg hk] at e ⊢
    exact c.slot i s e
theorem Cfg.set {r : Env} {Z H : Hp} {σ : L2.St} {i : Nat} {s : Sl} {o : Option V} (c : Cfg g r Z σ H) (h : SlotOk g Z H s o) : Cfg g (r.set i s) Z (σ.set i o) H := by
  refine ⟨c.pre, by rw [List.length_set, List.length_set]; exact c.len, fun k s' e => ?_⟩
  rw [List.getElem?_set] at e ⊢
  by_cases hk : i = k
  · subst hk
    rw [if_pos rfl] at e ⊢
    by_cases hl : i < r.length
    · rw [if_pos hl] at e
      cases e
      rw [if_pos (by rw [← c.len]; exact hl)]
      exact ⟨o, rfl, h⟩
    · rw [if_neg hl] at e; cases e
  · rw [if_neg hk] at e ⊢
    exact c.slot k s' e
def Tg.slots : Tg → List Nat
  | .nm i => [i]
  | .tp is => is
/-- one's own lists come from before -/
def OwnSub (r : Env) (σ : L2.St) (r2 : Env) (σ2 : L2.St) : Prop := ∀ (k : Nat) (xs : List D), r2[k]? = some (.own xs) → r[k]? = some (.own xs) ∧ σ2[k]? = σ[k]?
theorem ownSub_set {r : Env} {σ : L2.St} {i : Nat} {d : D} {o : Option V} : OwnSub r σ (r.set i (.val d)) (σ.set i o) := fun k xs h => by
  rw [List.getElem?_set] at h
  by_cases e : i = k
  · subst e
    rw [if_pos rfl] at h
    split at h <;> cases h
  · rw [if_neg e] at h
    exact ⟨h, List.getElem?_set_ne e⟩
/-- what a target's reading comes to -/
def SimG (g : G) (tg : Tg) (t : TG) : Prop := ∀ (v : V) (d : D) (r r2 : Env) (Z : Hp) (σ : L2.St) (H : Hp) (Q : L2.St → Hp → Prop), Cfg g r Z σ H → Rep g Z v d → bindTg tg d r = .ret r2 →
  (∀ σ2, Cfg g r2 Z σ2 H → (∀ vs : List Nat, (∀ i ∈ tg.slots, i ∈ vs) → wipe σ2 vs = wipe σ vs) → OwnSub r σ r2 σ2 → Q σ2 H) → t v σ H Q
theorem simG_nm {i : Nat} : SimG g (.nm i) (gName i) := by
  intro v d r r2 Z σ H Q c rv e q
  cases e
  exact q _ (c.set ⟨v, rfl, rv⟩) (fun vs h => wipe_set (h i (List.mem_singleton.mpr rfl))) ownSub_set
def gNames : List Nat → TGs
  | [] => gNil
  | i :: is => gCons (gName i) (gNames is)
theorem simG_names {Z H : Hp} {Q : L2.St → Hp → Prop} : ∀ (is : List Nat) (vs : List V) (ds : List D) (r r2 : Env) (σ : L2.St), Cfg g r Z σ H → Reps g Z vs ds → setAll is ds r = some r2 →
    (∀ σ2, Cfg g r2 Z σ2 H → (∀ ws : List Nat, (∀ i ∈ is, i ∈ ws) → wipe σ2 ws = wipe σ ws) → OwnSub r σ r2 σ2 → Q σ2 H) → gNames is vs σ H Q
  | [], _, [], r, r2, σ, c, .nil, e, q => by
    cases e
    exact ⟨rfl, q σ c (fun _ _ => rfl) fun _ _ h => ⟨h, rfl⟩⟩
  | [], _, _ :: _, _, _, _, _, _, e, _ => by cases e
  | _ :: _, _, [], _, _, _, _, _, e, _ => by cases e
  | i :: is, _, d :: ds, r, r2, σ, c, .cons rv rs, e, q => by
    refine ⟨_, _, rfl, ?_⟩
    refine simG_names is _ ds (r.set i (.val d)) r2 _ (c.set ⟨_, rfl, rv⟩) rs e fun σ2 c2 h os => q σ2 c2 (fun ws hw => ?_) fun k xs hk => ?_
    · rw [h ws fun j hj => hw j (List.mem_cons_of_mem _ hj)]
      exact wipe_set (hw i List.mem_cons_self)
    · obtain ⟨h1, h2⟩ := os k xs hk
      obtain ⟨h3, h4⟩ := ownSub_set k xs h1
      exact ⟨h3, h2.trans h4⟩
theorem setAll_len : ∀ {is : List Nat} {ds : List D} {r r2 : Env}, setAll is ds r = some r2 → ds.length = is.length
  | [], [], _, _, _ => rfl
  | [], _ :: _, _, _, e => by cases e
  | _ :: _, [], _, _, e => by cases e
  | _ :: is, _ :: ds, _, _, e => congrArg Nat.succ (setAll_len (is := is) (ds := ds) e)
theorem simG_tp {is : List Nat} : SimG g (.tp is) (gTup g.K is.length (gNames is)) := by
  intro v d r r2 Z σ H Q c rv e q
  cases d <;> first
    | (cases e; done)
    | skip
  cases rv with
  | tup h1 h2 h3 =>
    rename_i ds a vs
    have e : ofO (setAll is ds r) = .ret r2 := e
    cases e2 : setAll is ds r with
    | none => rw [e2] at e; cases e
    | some r3 =>
      rw [e2] at e
      cases e
      have hl : vs.length = is.length := by
        rw [h3.length]
        exact setAll_len e2
      exact ⟨a, vs, rfl, .of (c.pre.zh _ _ h1), hl, simG_names is vs ds r _ σ c h3 e2 q⟩

/-! ### comprehensions -/
section
variable {W : Nat → Hp → Prop}
theorem Step.setOwn {Z H Z' H' : Hp} (s : Step g Z H Z' H') {a : Addr} {o : HO} (h : H a = none) (nf : ¬ g.F a) (hz : Z' a = none) : Step g Z H Z' (upd H' a o) :=
  ⟨s.z, fun b u e => by rw [upd_ne (ne_of_none e hz)]; exact s.zh b u e, fun b u e f => by rw [upd_ne (ne_of_none e h)]; exact s.h b u e f, s.new, s.zf, good_upd s.pre nf⟩
theorem sim_comp {wi : TI} {ei : Env → T (List D)} {tg : Tg} {gt : TG} {tt : TT} {bt : Env → T Bool} {te : TE} {ee : Env → T D} {ws : List Nat} (hi : SimI g W wi ei) (hg : SimG g tg gt) (ht : SimB g (fun _ _ => False) tt bt) (he : SimE g (fun _ _ => False) te ee)
    (hin : ∀ i ∈ tg.slots, i ∈ ws) :
    SimE g W (tLc wi gt tt te ws) fun r => ei r >>= fun ds => noErr (compL (compF tg ws bt ee r) ds) >>= fun ys => .ret (.new ys) := by
  intro r Z σ H Q c a
  rw [all_bind] at a
  refine hi r Z σ H _ c (All.mono a (fun ds h1 J Z1 H1 s1 e1 wd hl => ?_) fun _ x => x)
  subst e1
  intro Dd hD
  obtain ⟨Gd, Y, wk, hGd, hY⟩ := wd
  have nf : ¬ g.F Dd := s1.pre.nF hD
  have zD : Z1 Dd = none := s1.pre.nZ hD
  have c1 := c.step s1
  rw [all_bind] at h1
  -- the turn's state
  refine lc_it wk (fun i H2 => ∃ Z2 acc ys, Step g Z1 H1 Z2 H2 ∧ Z2 Dd = none ∧ H2 Dd = some (.lst acc) ∧ Reps g Z2 acc ys ∧ acc.length ≤ i ∧
    (compL (compF tg ws bt ee r) (ds.drop i)).All (fun m rest => Post g Z H Q m (.new (ys ++ rest))) (fun _ _ => False) (g.bud H2)) ?_ ?_ ?_ ?_
  · refine ⟨Z1, [], [], .newH s1.pre hD, zD, upd_same, .nil, Nat.le_refl _, ?_⟩
    rw [List.drop_zero, bud_upd s1.pre nf]
    exact noErr_all h1
  · rintro i H2 _ ⟨Z2, acc, ys, s2, z2, h2, r2, l2, a2⟩
    exact hGd H2 fun b o e => s2.zh b o (s2.z b o e)
  · rintro i x H2 H3 hi ⟨Z2, acc, ys, s2, z2, h2, r2, l2, a2⟩ y
    obtain ⟨Z3, d, ed, s3, eb3, rd⟩ := hY i Z2 H2 x H3 hi s2.z s2.pre y
    rw [← eb3] at a2
    have s13 := s2.trans s3
    have h3 : H3 Dd = some (.lst acc) := s3.h _ _ h2 nf
    have z3 : Z3 Dd = none := none_step s3 h2 z2
    have hdrop : ds.drop i = d :: ds.drop (i + 1) := by
      have q := List.getElem?_eq_some_iff.mp ed
      obtain ⟨hlt, e⟩ := q
      rw [List.drop_eq_getElem_cons hlt, e]
    rw [hdrop] at a2
    unfold compL at a2
    rw [show compF tg ws bt ee r d = (bindTg tg d (wipeE r ws) >>= fun r2 => bt r2 >>= fun k => if k = true then ee r2 >>= fun y => fz y >>= fun y => .ret (some y) else .ret none) from rfl, bind_assoc'] at a2
    have cw : Cfg g (wipeE r ws) Z3 (wipe σ ws) H3 := (c1.step s13).wipe ws
    -- the target
    cases eb : bindTg tg d (wipeE r ws) with
    | err _ => rw [eb] at a2; exact a2.elim
    | bad => rw [eb] at a2; exact a2.elim
    | draw n k =>
      exfalso
      cases tg with
      | nm i => cases eb
      | tp is =>
        cases d <;> first
          | (cases eb; done)
          | (rename_i xs; have eb : ofO (setAll is xs (wipeE r ws)) = .draw n k := eb; cases q : setAll is xs (wipeE r ws) <;> rw [q] at eb <;> cases eb)
    | ret r3 =>
      rw [eb] at a2
      have a2 : (bt r3 >>= fun k => (if k = true then ee r3 >>= fun y => fz y >>= fun y => .ret (some y) else .ret none : T (Option D)) >>= fun o => compL (compF tg ws bt ee r) (ds.drop (i + 1)) >>= fun rr => .ret (match o with | some y => y :: rr | none => rr)).All (fun m rest => Post g Z H Q m (.new (ys ++ rest))) (fun _ _ => False) (g.bud H3) := by
        rw [← bind_assoc']
        exact a2
      refine hg x d _ r3 Z3 _ H3 _ cw rd eb fun σ2 c2 hw _ => ⟨by rw [hw ws hin, wipe_wipe], ?_⟩
      rw [all_bind] at a2
      refine ht r3 Z3 σ2 H3 _ c2 (All.mono a2 (fun k a3 Z4 H4 s4 e4 => ?_) fun _ x => x.elim)
      subst e4
      have h4 : H4 Dd = some (.lst acc) := s4.h _ _ h3 nf
      have z4 : Z4 Dd = none := none_step s4 h3 z3
      cases k with
      | false =>
        rw [if_neg Bool.false_ne_true] at a3
        show (if false = true then _ else _)
        rw [if_neg Bool.false_ne_true]
        refine ⟨Z4, acc, ys, s13.trans s4, z4, h4, r2.mono fun b o e => s4.z b o (s3.z b o e), by omega, ?_⟩
        have a3 : (compL (compF tg ws bt ee r) (ds.drop (i + 1)) >>= fun rr => .ret rr).All (fun m rest => Post g Z H Q m (.new (ys ++ rest))) (fun _ _ => False) (g.bud H4) := a3
        rw [show (fun rr : List D => T.ret rr) = T.ret from rfl, bind_ret] at a3
        exact a3
      | true =>
        rw [if_pos rfl] at a3
        show (if true = true then _ else _)
        rw [if_pos rfl]
        rw [bind_assoc', all_bind] at a3
        refine he r3 Z4 σ2 H4 _ (c2.step s4) (All.mono a3 (fun dy a4 vy Z5 H5 s5 e5 ry => ?_) fun _ x => x.elim)
        subst e5
        rw [bind_assoc', all_bind] at a4
        obtain ⟨y', Z6, a5, s6, sub6, ry6⟩ := fz_ok s5 ry a4
        have h5 : H5 Dd = some (.lst acc) := s5.h _ _ h4 nf
        have z6 : Z6 Dd = none := none_step s6 h4 z4
        refine ⟨acc, h5, Nat.lt_of_lt_of_le (Nat.lt_of_le_of_lt l2 hi) hl, Z6, acc ++ [vy], ys ++ [y'], ?_, z6, upd_same, ?_, by rw [List.length_append]; show acc.length + 1 ≤ i + 1; omega, ?_⟩
        · exact ((s13.trans s4).trans s6).setOwn hD nf z6
        · exact (r2.mono fun b o e => s6.z b o (s4.z b o (s3.z b o e))).append (.cons ry6 .nil)
        · have a5 : (compL (compF tg ws bt ee r) (ds.drop (i + 1)) >>= fun rr => .ret (y' :: rr)).All (fun m rest => Post g Z H Q m (.new (ys ++ rest))) (fun _ _ => False) (g.bud H5) := a5
          rw [all_bind] at a5
          rw [bud_upd s5.pre nf]
          refine All.mono a5 (fun rest q => ?_) fun _ x => x
          rw [List.append_assoc]
          exact q
  · rintro H2 ⟨Z2, acc, ys, s2, z2, h2, r2, l2, a2⟩
    rw [List.drop_length] at a2
    have a2 : Post g Z H Q (g.bud H2) (.new (ys ++ [])) := a2
    rw [List.append_nil] at a2
    have s0 := s1.trans s2
    have hD0 : H Dd = none := by
      rcases none_or (H := H) (a := Dd) with e | ⟨u, e⟩
      · exact e
      · rw [s1.h _ _ e nf] at hD; cases hD
    exact a2 _ Z2 H2 s0 rfl ⟨Dd, acc, rfl, h2, Nat.le_trans l2 hl, nf, z2, hD0, r2⟩
end
end PV
end
section
set_option maxHeartbeats 4000000
/-! PvS5: each expression by its term. -/
namespace PV
open PySem PySem.Spec PyProof.Rows L2

structure CtxOk (g : G) (ck : Ck) (sc : Scope) (W : Nat → Hp → Prop) (n : Nat) (C : Cx) : Prop where
  prog : C.prog = g.P
  w : C.w = g.w
  K : C.K = g.K
  mg : C.mg = g.mg
  base : C.base = g.base
  N : C.N = ck.N
  sc : C.env.scope = sc
  calm : C.calm = true
  room : Room n C.A
  tk : Takes C (fun cls d _ H => ∃ c, cls = .ref (g.cad c) ∧ d = none ∧ W c H)
/-- a def that keeps to what it computes -/
def FnE (g : G) (call : Nat → List D → T D) (n k : Nat) (x : Str) (m : Nat) : Prop :=
  ∃ (ad : Addr) (fd : FuncData) (ps : List Str), g.mg x = some (.ref ad) ∧ PySem.W.keepIn g.K (.ref ad) = true ∧ Binds g.K fd ps [] ∧ ps.length = m ∧ FnOk g.P g.w g.K g.mg g.base (L2.CX g.P g.w) n ad fd ps (spD g call k)
/-- the same, called by keywords alone -/
def FnK (g : G) (call : Nat → List D → T D) (n k : Nat) (x : Str) (ks : List Str) (perm : List Nat) : Prop :=
  ∃ (ad : Addr) (fd : FuncData) (ps : List Str), g.mg x = some (.ref ad) ∧ PySem.W.keepIn g.K (.ref ad) = true ∧ FnOk g.P g.w g.K g.mg g.base (L2.CX g.P g.w) n ad fd ps (spD g call k) ∧
    ∀ (s : Shared) (ws ys : List Value), g.K.In s.heap → ws.length = ks.length → permL perm ws = some ys → BindsTo s fd ⟨[], ks.zip ws⟩ (ps.zip ys)
def freeNames : List Str := ["abs", "max", "min", "len", "sum", "all", "any", "sorted", "list", "tuple", "int", "bool", "str", "isinstance", "range", "zip", "enumerate"]
structure Facts (g : G) (ck : Ck) (call : Nat → List D → T D) (n : Nat) : Prop where
  nd : ck.N.Nodup
  fn : ∀ k x m, (k, x, m) ∈ ck.fns → FnE g call n k x m
  kw : ∀ k x ks perm, (k, x, ks, perm) ∈ ck.kws → FnK g call n k x ks perm ∧ perm.length = ks.length
  con : ∀ x i, (x, i) ∈ ck.cons → ∃ t, g.mg x = some (.int i t)
  free : ∀ x ∈ freeNames, g.mg x = none
section
variable {g : G} {ck : Ck} {sc : Scope} {W : Nat → Hp → Prop} {n : Nat} {C : Cx} {call : Nat → List D → T D}
theorem plain_star {e : Expr} {es : List Expr} {env : PySem.Env} (h : plainE e = true) : starEach (e :: es) env = (false, eval e env) :: starEach es env := by
  cases e <;> first
    | rfl
    | exact (Bool.false_ne_true h).elim
theorem plain_any {pos : Pos} {env : PySem.Env} : ∀ {es : List Expr}, es.all plainE = true → (backTo pos (starEach es env)).any (·.1) = false
  | [], _ => rfl
  | e :: es, h => by
    rw [List.all_cons, Bool.and_eq_true] at h
    rw [plain_star h.1]
    exact plain_any (es := es) h.2
theorem glB_ok {x : Str} (h : glB sc x = true) : sc.names.lookup x = some .globalImplicit ∧ (x == ("__debug__" : Str)) = false ∧ x ≠ ("__name__" : Str) := by
  unfold glB at h
  simp only [Bool.and_eq_true, decide_eq_true_eq, Bool.not_eq_true'] at h
  exact ⟨h.1.1, h.1.2, h.2⟩
theorem CtxOk.gl (c : CtxOk g ck sc W n C) {x : Str} (h : glB sc x = true) : Gl C x := by
  show C.env.scope.names.lookup x = _
  rw [c.sc]
  exact (glB_ok h).1
theorem CtxOk.units (c : CtxOk g ck sc W n C) : C.A.units + 64 < cLine := c.room.units
theorem CtxOk.free (c : CtxOk g ck sc W n C) (F : Facts g ck call n) {x : Str} (h : x ∈ freeNames) : C.mg x = none := by rw [c.mg]; exact F.free x h

/-! ### operators -/
def rB (g : G) : BOp → R2
  | .add => fun x y H Q => rI0 (fun i j => .int (i + j)) x y H Q ∨ rCatA g.K x y H Q ∨ rCat x y H Q
  | .sub => rI0 fun i j => .int (i - j)
  | .mul => fun x y H Q => rI CMul (fun i j => .int (i * j)) x y H Q ∨ rRepT g.K x y H Q
  | .fdiv => rI CDivW fun i j => .int (i / j)
  | .mod => rI (fun _ j => 0 < j) fun i j => .int (i % j)
  | .pow => rI CPow fun i j => .int (i ^ j.toNat)
theorem rB_s : ∀ op, OpS g (rB g op) (binT op)
  | .add => ops_add | .sub => ops_sub | .mul => ops_mul | .fdiv => ops_fdiv | .mod => ops_mod | .pow => ops_pow
theorem rB_o (c : CtxOk g ck sc W n C) {op : BOp} {o : Operator} (h : bopB op o = true) : OpR C (binaryOp o) (rB g op) := by
  cases op <;> cases o <;> first
    | exact (Bool.false_ne_true h).elim
    | skip
  · have e1 : OpR C (binaryOp .Add) (rCatA g.K) := by rw [← c.K]; exact op_catA
    exact op_add.or (e1.or op_cat)
  · exact op_sub
  · have e1 : OpR C (binaryOp .Mult) (rRepT g.K) := by rw [← c.K]; exact op_repT
    exact op_mul.or e1
  · exact op_fdivW
  · exact op_mod
  · exact op_pow
def rC (g : G) : COp → R2
  | .lt => fun x y H Q => rI0 (fun i j => .bl (decide (i < j))) x y H Q ∨ rLtT g.K x y H Q
  | .le => rI0 fun i j => .bl (decide (i ≤ j))
  | .gt => rI0 fun i j => .bl (decide (j < i))
  | .ge => rI0 fun i j => .bl (decide (j ≤ i))
  | .eq => rEqD g.K
  | .ne => rNeD g.K
  | .is => fun x y H Q => y = .non ∧ Q (.bl (decide (x = .non))) H
  | .isn => fun x y H Q => y = .non ∧ Q (.bl (!decide (x = .non))) H
  | .inn => rIn g.K false
  | .nin => rIn g.K true
theorem rC_s : ∀ op, CmpS g (rC g op) (cmpT op)
  | .lt => cmp_lt | .le => cmp_le | .gt => cmp_gt | .ge => cmp_ge | .eq => cmp_eq | .ne => cmp_ne | .is => cmp_is | .isn => cmp_isn | .inn => cmp_inn | .nin => cmp_nin
theorem rC_o (c : CtxOk g ck sc W n C) {op : COp} {o : CmpOp} (h : copB op o = true) : OpR C (compareOp o) (rC g op) := by
  cases op <;> cases o <;> first
    | exact (Bool.false_ne_true h).elim
    | skip
  · have e1 : OpR C (compareOp .Lt) (rLtT g.K) := by rw [← c.K]; exact op_ltT c.room.units0
    exact op_lt.or e1
  · exact op_le
  · exact op_gt
  · exact op_ge
  · show OpR C (compareOp .Eq) (rEqD g.K)
    rw [← c.K]; exact op_eqD c.units
  · show OpR C (compareOp .NotEq) (rNeD g.K)
    rw [← c.K]; exact op_neD c.units
  · exact op_isN
  · exact op_notN
  · show OpR C (compareOp .In) (rIn g.K false)
    rw [← c.K]; exact op_in_seq
  · show OpR C (compareOp .NotIn) (rIn g.K true)
    rw [← c.K]; exact op_notIn_seq

/-! ### built-in calls -/
def rF (g : G) : Blt → List V → Hp → VK → Prop
  | .abs => fun xs H Q => ∃ i, xs = [.int i] ∧ Q (.int (if i < 0 then -i else i)) H
  | .max => fun xs H Q => (∃ i j, xs = [.int i, .int j] ∧ Q (.int (if j > i then j else i)) H) ∨ rMax g.K xs H Q
  | .min => fun xs H Q => (∃ i j, xs = [.int i, .int j] ∧ Q (.int (if j < i then j else i)) H) ∨ rMin g.K xs H Q
  | .len => fun xs H Q => ∃ p ys, xs = [.ref p] ∧ (SqL g.K H p ys ∨ SqT g.K H p ys) ∧ Q (.int ys.length) H
  | .sum => fun xs H Q => rSum g.K xs H Q ∨ rSumT g.K xs H Q
  | .all => rAll g.K
  | .any => rAny g.K
  | .sorted => rSorted g.K
  | .list => fun xs H Q => ∃ p ys, xs = [.ref p] ∧ (SqL g.K H p ys ∨ SqT g.K H p ys) ∧ ∀ l, H l = none → Q (.ref l) (upd H l (.lst ys))
  | .tuple => fun xs H Q => ∃ p ys, xs = [.ref p] ∧ ((SqL g.K H p ys ∧ ∀ l, H l = none → Q (.ref l) (upd H l (.tup ys))) ∨ (SqT g.K H p ys ∧ Q (.ref p) H))
  | .int => fun xs H Q => (∃ i, xs = [.int i] ∧ Q (.int i) H) ∨ ∃ k, xs = [.bl k] ∧ Q (.int (if k then 1 else 0)) H
  | _ => fun _ _ _ => False
theorem rF_s {f : Blt} (h : kindName f = none) : BltS g (rF g f) (bltT f) := by
  cases f <;> first
    | (cases h; done)
    | skip
  · exact blt_abs
  · exact blt_max
  · exact blt_min
  · exact blt_len
  · exact blt_sum
  · exact blt_all
  · exact blt_any
  · exact blt_sorted
  · exact blt_list
  · exact blt_tuple
  · exact blt_int
/-- f(..), f a built-in of the ones above -/
theorem pe_blt (c : CtxOk g ck sc W n C) (F : Facts g ck call n) {f : Blt} (hk : kindName f = none) {x : Str} (hx : x = bltName f) (hg : glB sc x = true) {p pos : Pos} {e : Expr} {es : List Expr} {t : TA} (ha : PA C (e :: es) t) (hp : (e :: es).all plainE = true) :
    PE C (.Call (.Name x p) (e :: es) [] pos) (tCB (rF g f) t) := by
  have hp' := hp
  rw [List.all_cons, Bool.and_eq_true] at hp'
  have he : starEach (e :: es) C.env = (false, eval e C.env) :: starEach es C.env := plain_star hp'.1
  have hpl : (backTo pos (starEach es C.env)).any (·.1) = false := plain_any hp'.2
  obtain ⟨g1, g2, g3⟩ := glB_ok hg
  have gl := c.gl hg
  have q : ∀ {a b : Prop}, a → b → a := fun h _ => h
  subst hx
  cases f <;> first
    | (cases hk; done)
    | skip
  · exact pe_callB call_abs gl (c.free F (by decide +kernel)) (by decide +kernel) ha g3 g2 he hpl
  · have e1 : CallR C (.builtin "max") (rMax g.K) := by rw [← c.K]; exact cr_max c.calm
    exact pe_callB ((call_max2 c.calm).or e1) gl (c.free F (by decide +kernel)) (by decide +kernel) ha g3 g2 he hpl
  · have e1 : CallR C (.builtin "min") (rMin g.K) := by rw [← c.K]; exact cr_min c.calm
    exact pe_callB ((call_min2 c.calm).or e1) gl (c.free F (by decide +kernel)) (by decide +kernel) ha g3 g2 he hpl
  · have e1 : CallR C (.builtin "len") (rF g .len) := by show CallR C _ (fun xs H Q => ∃ p ys, xs = [.ref p] ∧ (SqL g.K H p ys ∨ SqT g.K H p ys) ∧ Q (.int ys.length) H); rw [← c.K]; exact call_len_seq
    exact pe_callB e1 gl (c.free F (by decide +kernel)) (by decide +kernel) ha g3 g2 he hpl
  · have e1 : CallR C (.builtin "sum") (rSum g.K) := by rw [← c.K]; exact cr_sum c.calm
    have e2 : CallR C (.builtin "sum") (rSumT g.K) := by rw [← c.K]; exact cr_sumT c.calm
    exact pe_callB (e1.or e2) gl (c.free F (by decide +kernel)) (by decide +kernel) ha g3 g2 he hpl
  · have e1 : CallR C (.builtin "all") (rAll g.K) := by rw [← c.K]; exact cr_all c.calm
    exact pe_callB e1 gl (c.free F (by decide +kernel)) (by decide +kernel) ha g3 g2 he hpl
  · have e1 : CallR C (.builtin "any") (rAny g.K) := by rw [← c.K]; exact cr_any c.calm
    exact pe_callB e1 gl (c.free F (by decide +kernel)) (by decide +kernel) ha g3 g2 he hpl
  · have e1 : CallR C (.builtin "sorted") (rSorted g.K) := by rw [← c.K]; exact cr_sorted
    exact pe_callB e1 gl (c.free F (by decide +kernel)) (by decide +kernel) ha g3 g2 he hpl
  · have e1 : CallR C (.type "list") (rF g .list) := by show CallR C _ (fun xs H Q => ∃ p ys, xs = [.ref p] ∧ (SqL g.K H p ys ∨ SqT g.K H p ys) ∧ ∀ l, H l = none → Q (.ref l) (upd H l (.lst ys))); rw [← c.K]; exact call_list_of
    exact pe_callTy e1 gl (c.free F (by decide +kernel)) (by decide +kernel) ha g3 g2 he hpl
  · have e1 : CallR C (.type "tuple") (rF g .tuple) := by show CallR C _ (fun xs H Q => ∃ p ys, xs = [.ref p] ∧ ((SqL g.K H p ys ∧ ∀ l, H l = none → Q (.ref l) (upd H l (.tup ys))) ∨ (SqT g.K H p ys ∧ Q (.ref p) H))); rw [← c.K]; exact call_tuple_of
    exact pe_callTy e1 gl (c.free F (by decide +kernel)) (by decide +kernel) ha g3 g2 he hpl
  · exact pe_callTy call_int1 gl (c.free F (by decide +kernel)) (by decide +kernel) ha g3 g2 he hpl
theorem kind_ok {f : Blt} {k : Str} (h : kindName f = some k) : ∃ (tn : String) (kk : D → Option Bool), bltT f = isKind kk ∧ KOk tn kk ∧ bootBuiltins k = some (.type tn) ∧ k ∈ freeNames ∧ bltName f = "isinstance" ∧ k ≠ ("__name__" : Str) := by
  cases f <;> first
    | (cases h; done)
    | skip
  · cases h; exact ⟨"int", kInt, rfl, kok_int, by decide +kernel, by decide +kernel, rfl, by decide +kernel⟩
  · cases h; exact ⟨"bool", kBool, rfl, kok_bool, by decide +kernel, by decide +kernel, rfl, by decide +kernel⟩
  · cases h; exact ⟨"tuple", kTup, rfl, kok_tup, by decide +kernel, by decide +kernel, rfl, by decide +kernel⟩
  · cases h; exact ⟨"list", kLst, rfl, kok_lst, by decide +kernel, by decide +kernel, rfl, by decide +kernel⟩
  · cases h; exact ⟨"str", kStr, rfl, kok_str, by decide +kernel, by decide +kernel, rfl, by decide +kernel⟩
theorem pe_kind (c : CtxOk g ck sc W n C) (F : Facts g ck call n) {f : Blt} {k : Str} (hk : kindName f = some k) {x y : Str} (hx : x = bltName f) (hg : glB sc x = true) (hy : y = k) (hgy : glB sc y = true) {p pos p2 : Pos} {e : Expr} {t : TE} (he : PE C e t) (hp : plainE e = true) :
    ∃ (tn : String) (kk : D → Option Bool), bltT f = isKind kk ∧ KOk tn kk ∧ PE C (.Call (.Name x p) [e, .Name y p2] [] pos) (tCB (rIsi g.K) (tCons t (tCons (tC (.ty tn)) tNil))) := by
  obtain ⟨tn, kk, h1, h2, h3, h4, h5, h6⟩ := kind_ok hk
  refine ⟨tn, kk, h1, h2, ?_⟩
  rw [h5] at hx
  subst hx
  subst hy
  have e1 : CallR C (.builtin "isinstance") (rIsi g.K) := by rw [← c.K]; exact call_isi
  have hy : PE C (.Name y p2) (tC (.ty tn)) := pe_bltn (c.gl hgy) (c.free F h4) h3 rfl h6 (glB_ok hgy).2.1
  exact pe_callB e1 (c.gl hg) (c.free F (by decide +kernel)) (by decide +kernel) (pa_cons he (pa_cons hy pa_nil) (plain_star hp)) (glB_ok hg).2.2 (glB_ok hg).2.1 (plain_star hp) rfl
theorem pe_fn (c : CtxOk g ck sc W n C) (F : Facts g ck call n) {k m : Nat} {x : Str} (hf : (k, x, m) ∈ ck.fns) (hg : glB sc x = true) {p pos : Pos} {e : Expr} {es : List Expr} {t : TA} (ha : PA C (e :: es) t) (hp : (e :: es).all plainE = true) :
    PE C (.Call (.Name x p) (e :: es) [] pos) (tCall (spD g call k) [] (eW g W) t) := by
  obtain ⟨ad, fd, ps, h1, h2, h3, h4, h5⟩ := F.fn k x m hf
  have hp' := hp
  rw [List.all_cons, Bool.and_eq_true] at hp'
  have F' : FnOk C.prog C.w C.K C.mg C.base (L2.CX C.prog C.w) n ad fd ps (spD g call k) := by
    rw [c.prog, c.w, c.K, c.mg, c.base]
    exact h5
  exact pe_call (ds := []) F' c.room (c.gl hg) (by rw [c.mg]; exact h1) (by rw [c.K]; exact h2) (by rw [c.K]; exact h3) .nil (passes_call c.tk fun _ _ _ _ h => h) ha (glB_ok hg).2.1 (plain_star hp'.1) (plain_any hp'.2)
theorem permL_vals {vs : List V} {us : List Value} (r : Vals vs us) : ∀ {perm : List Nat} {ys : List V}, permL perm vs = some ys → ∃ zs, permL perm us = some zs ∧ Vals ys zs
  | [], ys, h => by cases h; exact ⟨[], rfl, .nil⟩
  | i :: is, ys, h => by
    unfold permL at h
    split at h
    · rename_i x ys h1 h2
      cases h
      obtain ⟨zs, k1, k2⟩ := permL_vals r (perm := is) h2
      obtain ⟨v, k3, k4⟩ := r.get h1
      refine ⟨v :: zs, ?_, .cons k4 k2⟩
      unfold permL
      rw [k3, k1]
    · cases h
theorem kw_some {pos : Pos} {env : PySem.Env} : ∀ {kws : List Keyword}, kwSome kws = true → (backToKw pos (keywordEach kws env)).all (·.1.isSome) = true ∧ (backToKw pos (keywordEach kws env)).any (·.1.isNone) = false ∧ (backToKw pos (keywordEach kws env)).filterMap (·.1) = kwNames kws
  | [], _ => ⟨rfl, rfl, rfl⟩
  | ⟨nm, e, kp⟩ :: kws, h => by
    unfold kwSome at h
    rw [List.all_cons, Bool.and_eq_true] at h
    obtain ⟨h1, h2⟩ := h
    obtain ⟨q1, q2, q3⟩ := kw_some (pos := pos) (env := env) (kws := kws) h2
    cases nm with
    | none => cases h1
    | some nm =>
      refine ⟨?_, ?_, ?_⟩
      · exact q1
      · exact q2
      · show nm :: (backToKw pos (keywordEach kws env)).filterMap (·.1) = nm :: kwNames kws
        rw [q3]
theorem pe_fnk (c : CtxOk g ck sc W n C) (F : Facts g ck call n) {k : Nat} {x : Str} {kws : List Keyword} {perm : List Nat} (hf : (k, x, kwNames kws, perm) ∈ ck.kws) (hg : glB sc x = true) (hs : kwSome kws = true) {p pos : Pos} {t : TA} (ha : PK C kws t) :
    PE C (.Call (.Name x p) [] kws pos) (tCallP (spD g call k) perm (eW g W) t) := by
  obtain ⟨⟨ad, fd, ps, h1, h2, h5, h6⟩, hl⟩ := F.kw k x _ perm hf
  have F' : FnOk C.prog C.w C.K C.mg C.base (L2.CX C.prog C.w) n ad fd ps (spD g call k) := by
    rw [c.prog, c.w, c.K, c.mg, c.base]
    exact h5
  have hx : Passes (L2.CX C.prog C.w) C (eW g W) := passes_call c.tk fun _ _ _ _ h => h
  obtain ⟨k1, k2, k3⟩ := kw_some (pos := pos) (env := C.env) hs
  refine ⟨fun pins s σ H Q I h => ?_⟩
  refine wpAny_Call_Name_kw (ld_glob I (c.gl hg) (by rw [c.mg]; exact h1) ?_ (glB_ok hg).2.1)
  refine PySem.W.callWith_KW0 (h₀ := C.base) I.ok.mod.kin (by rw [c.K]; exact h2) k1 ?_ (by rw [k2]; rfl)
  refine thn (ha.run pos pins s σ H _ I h) fun ws s2 ⟨zs, H2, I2, rz, ys, hy, q2⟩ => ⟨I2.kIn, ?_⟩
  rw [k3]
  unfold permD at hy
  split at hy
  · rename_i hlz
    obtain ⟨us, e1, e2⟩ := permL_vals rz hy
    have hl2 : us.length = ps.length := by rw [← e2.length]; exact F'.len _ _ _ _ q2
    have hw : BindsTo s2 fd ⟨[], (kwNames kws).zip ws⟩ (ps.zip us) := h6 s2 ws us (by rw [← c.K]; exact I2.kIn) (by rw [← rz.length, hlz, hl]) e1
    refine wpAny_call (codeAny_mono (F'.run C.A C.stack s2 H2 ⟨[], (kwNames kws).zip ws⟩ us ys Q _ c.room I2.env0 hw e2 q2) fun r s' hq => ?_)
    cases r with
    | error e => exact hx pins σ H2 s2 e s' I2 hq
    | ok fl =>
      cases fl with
      | ret u => exact I2.after hq
      | next => exact False.elim hq
      | brk => exact False.elim hq
      | cont => exact False.elim hq
  · cases hy
theorem visB_ok {i : Nat} {x : Str} (c : CtxOk g ck sc W n C) (h : visB ck sc i x = true) {p : Pos} : PE C (.Name x p) (tVar i) := by
  unfold visB at h
  simp only [Bool.and_eq_true, decide_eq_true_eq, Bool.not_eq_true'] at h
  obtain ⟨⟨⟨h1, h2⟩, h3⟩, h4⟩ := h
  refine pe_var (by rw [c.N]; exact h1) ?_ h3 h4
  show Vis C.env.scope x
  rw [c.sc]
  unfold Vis
  cases q : sc.names.lookup x with
  | none => rw [q] at h2; cases h2
  | some k =>
    rw [q] at h2
    cases k <;> first
      | (cases h2; done)
      | exact .inl rfl
      | exact .inr (.inl rfl)
      | exact .inr (.inr rfl)
theorem plainIx_ok {e : Expr} (h : plainIxB e = true) : PlainIx e := by
  intro o i
  cases e <;> first
    | rfl
    | exact (Bool.false_ne_true h).elim
theorem pt_of {e : Expr} {t : TE} (h : PE C e t) (he : ∀ whole, isTrue e C.env whole = (do let v ← whole; standAt e.pos; holding [v] (truthy v))) : PT C e (tTest t) := pt_val h he
theorem pg_nm (c : CtxOk g ck sc W n C) (F : Facts g ck call n) {f : Str → Bool} (hf : ∀ x, f x = true → C.fn x = true) {i : Nat} {e : Expr} (h : nmB ck sc f i e = true) : PG C e (gName i) := by
  cases e <;> first
    | exact (Bool.false_ne_true h).elim
    | skip
  rename_i x p
  unfold nmB at h
  simp only [Bool.and_eq_true, Bool.or_eq_true, decide_eq_true_eq] at h
  obtain ⟨h1, h2⟩ := h
  have hN : C.N.Nodup := by rw [c.N]; exact F.nd
  have hi : C.N[i]? = some x := by rw [c.N]; exact h1
  rcases h2 with h2 | ⟨h2, h3⟩
  · exact pg_name hN hi (.inl (by rw [c.sc]; exact h2)) (.inr (by rw [c.sc]; exact h2))
  · exact pg_name hN hi (.inr (by rw [c.sc]; exact h2)) (.inl (hf x h3))
theorem pgs_nms (c : CtxOk g ck sc W n C) (F : Facts g ck call n) {f : Str → Bool} (hf : ∀ x, f x = true → C.fn x = true) : ∀ {is : List Nat} {es : List Expr}, nmsB ck sc f is es = true →
    PGs C es (gNames is) ∧ (assignEach es C.env).length = is.length ∧ (assignEach es C.env).findIdx? (·.1) = none
  | [], [], _ => ⟨pgs_nil, rfl, rfl⟩
  | [], _ :: _, h => (Bool.false_ne_true h).elim
  | _ :: _, [], h => (Bool.false_ne_true h).elim
  | i :: is, e :: es, h => by
    unfold nmsB at h
    rw [Bool.and_eq_true] at h
    obtain ⟨h1, h2, h3⟩ := pgs_nms c F hf (is := is) (es := es) h.2
    have q := pg_nm c F hf h.1
    have h0 := h.1
    cases e with
    | Name x p =>
      have e1 : assignEach (.Name x p :: es) C.env = (false, assign (.Name x p) C.env) :: assignEach es C.env := by
        first | rfl | simp [assignEach]
      refine ⟨pgs_cons q h1 (by rw [e1]; rfl), by rw [e1]; exact congrArg Nat.succ h2, ?_⟩
      rw [e1, List.findIdx?_cons, h3]
      rfl
    | _ => exact (Bool.false_ne_true h0).elim
def tgR (g : G) : Tg → TG
  | .nm i => gName i
  | .tp is => gTup g.K is.length (gNames is)
theorem simG_tg : ∀ tg : Tg, SimG g tg (tgR g tg)
  | .nm _ => simG_nm
  | .tp _ => simG_tp
theorem pg_tg (c : CtxOk g ck sc W n C) (F : Facts g ck call n) {f : Str → Bool} (hf : ∀ x, f x = true → C.fn x = true) {tg : Tg} {e : Expr} (h : tgCell ck sc f tg e = true) : PG C e (tgR g tg) := by
  cases tg with
  | nm i => exact pg_nm c F hf h
  | tp is =>
    cases e <;> first
      | exact (Bool.false_ne_true h).elim
      | skip
    rename_i es k p
    obtain ⟨h1, h2, h4⟩ := pgs_nms c F hf (show nmsB ck sc f is es = true from h)
    show PG C (.Tuple es k p) (gTup g.K is.length (gNames is))
    rw [← c.K]
    exact pg_tup c.calm h1 h2 h4
end
end PV
end
section
set_option maxHeartbeats 8000000
/-! PvS6: the theorem over all terms of expressions. -/
namespace PV
open PySem PySem.Spec PyProof.Rows L2
section
variable {g : G} {ck : Ck} {n : Nat} {call : Nat → List D → T D}
abbrev SE (g : G) (C : Cx) (W : Nat → Hp → Prop) (e : Expr) (f : Env → T D) : Prop := ∃ t, PE C e t ∧ SimE g W t f
abbrev SB (g : G) (C : Cx) (W : Nat → Hp → Prop) (e : Expr) (f : Env → T Bool) : Prop := ∃ t, PT C e t ∧ SimB g W t f
abbrev SW (g : G) (C : Cx) (W : Nat → Hp → Prop) (e : Expr) (f : Env → T Bool) : Prop := ∃ t, PW C e t ∧ SimB g W t f
abbrev SA (g : G) (C : Cx) (W : Nat → Hp → Prop) (e : List Expr) (f : Env → T (List D)) : Prop := ∃ t, (PA C e t ∧ ∀ kws : List Keyword, kws.map (·.value) = e → PK C kws t) ∧ SimA g W t f
abbrev SR (g : G) (C : Cx) (W : Nat → Hp → Prop) (e : List Expr) (f : Env → T (List D)) : Prop := ∃ t, PA C e t ∧ SimR g W t f
abbrev SO (g : G) (C : Cx) (W : Nat → Hp → Prop) (e : Option Expr) (f : Env → T (Option Int)) : Prop := ∃ t, PO C e t ∧ SimO g W t f
abbrev SI (g : G) (C : Cx) (W : Nat → Hp → Prop) (tg e : Expr) (f : Env → T (List D)) : Prop := ∃ t, PI C tg e t ∧ SimI g W t f
structure Snd (g : G) (ck : Ck) (call : Nat → List D → T D) (n : Nat) (x : X) : Prop where
  E : ∀ (C : Cx) (sc : Scope) (W : Nat → Hp → Prop) (e : Expr), CtxOk g ck sc W n C → chkE ck x sc e = true → SE g C W e (ev call x)
  T : ∀ (C : Cx) (sc : Scope) (W : Nat → Hp → Prop) (e : Expr), CtxOk g ck sc W n C → chkT ck x sc e = true → SB g C W e (evT call x)
  W : ∀ (C : Cx) (sc : Scope) (W : Nat → Hp → Prop) (e : Expr), CtxOk g ck sc W n C → chkW ck x sc e = true → SW g C W e (evT call x)
  A : ∀ (C : Cx) (sc : Scope) (W : Nat → Hp → Prop) (e : List Expr), CtxOk g ck sc W n C → chkA ck x sc e = true → SA g C W e (evA call x)
  R : ∀ (C : Cx) (sc : Scope) (W : Nat → Hp → Prop) (e : List Expr), CtxOk g ck sc W n C → chkR ck x sc e = true → SR g C W e (evR call x)
  O : ∀ (C : Cx) (sc : Scope) (W : Nat → Hp → Prop) (e : Option Expr), CtxOk g ck sc W n C → chkO ck x sc e = true → SO g C W e (evO call x)
  I : ∀ (C : Cx) (sc : Scope) (W : Nat → Hp → Prop) (tg e : Expr), CtxOk g ck sc W n C → chkI ck x sc tg e = true → SI g C W tg e (evI call x)
theorem no {P : Prop} {b : Bool} (h : b = true) (e : b = false) : P := by rw [e] at h; cases h
section
variable {W : Nat → Hp → Prop} {C : Cx} {sc : Scope}
theorem SE.seq (c : CtxOk g ck sc W n C) {tg e : Expr} {f : Env → T D} (h : SE g C W e f) : SI g C W tg e fun r => f r >>= fun v => ofO (frozen v) := by
  obtain ⟨t, h1, h2⟩ := h
  have h3 : PI C tg e (iSeq g.K t) := by rw [← c.K]; exact pi_seq h1
  exact ⟨_, h3, simI_seq h2⟩
theorem SE.test {e : Expr} {f : Env → T D} (h : SE g C W e f) (he : ∀ whole, isTrue e C.env whole = (do let v ← whole; standAt e.pos; holding [v] (truthy v))) : SB g C W e fun r => f r >>= toB := by
  obtain ⟨t, h1, h2⟩ := h
  exact ⟨_, pt_of h1 he, sim_test h2⟩
theorem sim_yes : SimB g W tYes fun _ => .ret true := fun r Z σ H Q c a => a Z H (.refl c.pre) rfl
theorem notSet_ok {e : Expr} {env : PySem.Env} (h : notSetB e = true) : ∀ x, foldedSetIterable e env x = pure x := by
  intro x
  cases e <;> first
    | rfl
    | exact (Bool.false_ne_true h).elim
theorem tgIn_ok {own : List (Str × Nat)} {tg : Tg} (h : tgIn own tg = true) : ∀ i ∈ tg.slots, i ∈ own.map (·.2) := by
  intro i hi
  cases tg with
  | nm j =>
    cases List.mem_singleton.mp hi
    exact of_decide_eq_true h
  | tp is => exact of_decide_eq_true (List.all_eq_true.mp h i hi)
theorem CtxOk.blk (c : CtxOk g ck sc W n C) (s : Shared) (H : Hp) (scope : Scope) (A : Addr) (cl : List (Str × Addr)) (fp : List Addr) : CtxOk g ck (relS scope sc) (fun _ _ => False) n (C.blk s H scope (compEnvC scope cl A C.env) fp) where
  prog := c.prog
  w := c.w
  K := c.K
  mg := c.mg
  base := c.base
  N := c.N
  sc := by
    show relS scope C.env.scope = relS scope sc
    rw [c.sc]
  calm := c.calm
  room := c.room
  tk := takes0.imp fun _ _ _ _ ⟨_, _, _, h⟩ => h.elim
theorem se_call (c : CtxOk g ck sc W n C) (F : Facts g ck call n) {f : Nat} {as : X} (ih : Snd g ck call n as) {x : Str} {p pos : Pos} {e : Expr} {es : List Expr}
    (h : (glB sc x && decide ((f, x, (e :: es).length) ∈ ck.fns) && chkA ck as sc (e :: es) && (e :: es).all plainE) = true) : SE g C W (.Call (.Name x p) (e :: es) [] pos) (ev call (.call f as)) := by
  simp only [Bool.and_eq_true, decide_eq_true_eq] at h
  obtain ⟨⟨⟨h1, h2⟩, h3⟩, h4⟩ := h
  obtain ⟨t, q1, q2⟩ := ih.A C sc W _ c h3
  exact ⟨_, pe_fn c F h2 h1 q1.1 h4, sim_call q2⟩
theorem se_callK (c : CtxOk g ck sc W n C) (F : Facts g ck call n) {f : Nat} {perm : List Nat} {as : X} (ih : Snd g ck call n as) {x : Str} {p pos : Pos} {kws : List Keyword}
    (h : (glB sc x && decide ((f, x, kwNames kws, perm) ∈ ck.kws) && kwSome kws && chkA ck as sc (kws.map (·.value))) = true) : SE g C W (.Call (.Name x p) [] kws pos) (ev call (.callK f perm as)) := by
  simp only [Bool.and_eq_true, decide_eq_true_eq] at h
  obtain ⟨⟨⟨h1, h2⟩, h3⟩, h4⟩ := h
  obtain ⟨t, q1, q2⟩ := ih.A C sc W _ c h4
  exact ⟨_, pe_fnk c F h2 h1 h3 (q1.2 kws rfl), sim_callP q2⟩
end
theorem se_blt {W : Nat → Hp → Prop} {C : Cx} {sc : Scope} (c : CtxOk g ck sc W n C) (F : Facts g ck call n) {f : Blt} {as : X} (ihs : Snd g ck call n as) {x : Str} {p pos : Pos} {e : Expr} {es : List Expr}
    (h : (glB sc x && decide (x = bltName f) && decide (kindName f = none) && chkR ck as sc (e :: es) && (e :: es).all plainE) = true) : SE g C W (.Call (.Name x p) (e :: es) [] pos) fun r => (evs call as).R r >>= fun ds => bltT f ds := by
  simp only [Bool.and_eq_true, decide_eq_true_eq] at h
  obtain ⟨⟨⟨⟨h1, h2⟩, h3⟩, h4⟩, h5⟩ := h
  obtain ⟨t, q1, q2⟩ := ihs.R C sc W _ c h4
  exact ⟨_, pe_blt c F h3 h2 h1 q1 h5, sim_blt (rF_s h3) q2⟩
theorem se_isk {W : Nat → Hp → Prop} {C : Cx} {sc : Scope} (c : CtxOk g ck sc W n C) (F : Facts g ck call n) {f : Blt} {a : X} (iha : Snd g ck call n a) {x y : Str} {p pos p2 : Pos} {e : Expr}
    (h : (glB sc x && decide (x = bltName f) && glB sc y && decide (kindName f = some y) && chkE ck a sc e && plainE e) = true) : SE g C W (.Call (.Name x p) [e, .Name y p2] [] pos) fun r => (evs call a).E r >>= fun x => bltT f [x] := by
  simp only [Bool.and_eq_true, decide_eq_true_eq] at h
  obtain ⟨⟨⟨⟨⟨h1, h2⟩, h3⟩, h4⟩, h5⟩, h6⟩ := h
  obtain ⟨t, q1, q2⟩ := iha.E C sc W _ c h5
  obtain ⟨tn, kk, e1, e2, e3⟩ := pe_kind c F h4 h2 h1 rfl h3 (p := p) (pos := pos) (p2 := p2) q1 h6
  refine ⟨_, e3, ?_⟩
  rw [e1]
  exact sim_isk e2 q2
/-- a term of one kind alone -/
theorem ofE_snd {x : X} {f : Env → T D} (he : evs call x = ofE f) (hE : ∀ (C : Cx) (sc : Scope) (W : Nat → Hp → Prop) (e : Expr), CtxOk g ck sc W n C → chkE ck x sc e = true → SE g C W e f)
    (hT : ∀ (C : Cx) (sc : Scope) (e : Expr), chkT ck x sc e = true → chkE ck x sc e = true ∧ ((∀ whole, isTrue e C.env whole = (do let v ← whole; standAt e.pos; holding [v] (truthy v))) ∨ ∃ a o b p, e = .Compare a o b p))
    (hC : ∀ (C : Cx) (sc : Scope) (W : Nat → Hp → Prop) (a : Expr) (o : List CmpOp) (b : List Expr) (p : Pos), CtxOk g ck sc W n C → chkT ck x sc (.Compare a o b p) = true → SB g C W (.Compare a o b p) fun r => f r >>= toB)
    (hI : ∀ (sc : Scope) (tg e : Expr), chkI ck x sc tg e = true → chkE ck x sc e = true)
    (nW : ∀ sc e, chkW ck x sc e = false) (nA : ∀ sc e, chkA ck x sc e = false) (nR : ∀ sc e, chkR ck x sc e = false) (nO : ∀ sc e, chkO ck x sc e = false) : Snd g ck call n x where
  E := fun C sc W e c h => by
    have q := hE C sc W e c h
    have e1 : ev call x = f := by funext r; show (evs call x).E r = f r; rw [he]; rfl
    rw [e1]; exact q
  T := fun C sc W e c h => by
    have e1 : evT call x = fun r => f r >>= toB := by funext r; show (evs call x).B r = _; rw [he]; rfl
    rw [e1]
    obtain ⟨h1, h2⟩ := hT C sc e h
    rcases h2 with h2 | ⟨a, o, b, p, rfl⟩
    · exact (hE C sc W e c h1).test h2
    · exact hC C sc W a o b p c h
  W := fun C sc W e c h => no h (nW sc e)
  A := fun C sc W e c h => no h (nA sc e)
  R := fun C sc W e c h => no h (nR sc e)
  O := fun C sc W e c h => no h (nO sc e)
  I := fun C sc W tg e c h => by
    have e1 : evI call x = fun r => f r >>= fun v => ofO (frozen v) := by funext r; show (evs call x).I r = _; rw [he]; rfl
    rw [e1]
    exact (hE C sc W e c (hI sc tg e h)).seq c
theorem constE {x : X} {f : Env → T D} (he : evs call x = ofE f) (hE : ∀ (C : Cx) (sc : Scope) (W : Nat → Hp → Prop) (e : Expr), CtxOk g ck sc W n C → chkE ck x sc e = true → SE g C W e f)
    (nT : ∀ sc e, chkT ck x sc e = false) (nI : ∀ sc tg e, chkI ck x sc tg e = false)
    (nW : ∀ sc e, chkW ck x sc e = false) (nA : ∀ sc e, chkA ck x sc e = false) (nR : ∀ sc e, chkR ck x sc e = false) (nO : ∀ sc e, chkO ck x sc e = false) : Snd g ck call n x :=
  ofE_snd he hE (fun _ sc e h => no h (nT sc e)) (fun _ sc _ _ _ _ _ _ h => no h (nT sc _)) (fun sc tg e h => no h (nI sc tg e)) nW nA nR nO
theorem and_list {W : Nat → Hp → Prop} {C : Cx} {sc : Scope} {b : X} (ih : Snd g ck call n b) (c : CtxOk g ck sc W n C) {op : BoolOp} {eb : Expr} {es : List Expr} {pos : Pos}
    (h : (tailB es (chkE ck b sc eb) (chkE ck b sc (.BoolOp op (eb :: es) pos))) = true) : SE g C W (.BoolOp op (eb :: es) pos) (ev call b) := by
  cases es with
  | nil =>
    obtain ⟨t, h1, h2⟩ := ih.E C sc W eb c h
    exact ⟨t, pe_one h1, h2⟩
  | cons a as => exact ih.E C sc W _ c h
theorem andW_list {W : Nat → Hp → Prop} {C : Cx} {sc : Scope} {b : X} (ih : Snd g ck call n b) (c : CtxOk g ck sc W n C) {eb : Expr} {es : List Expr} {pos : Pos}
    (h : (tailB es (chkT ck b sc eb) (chkW ck b sc (.BoolOp .And (eb :: es) pos))) = true) : SW g C W (.BoolOp .And (eb :: es) pos) (evT call b) := by
  cases es with
  | nil =>
    obtain ⟨t, h1, h2⟩ := ih.T C sc W eb c h
    exact ⟨t, pw_and1 h1, h2⟩
  | cons a as => exact ih.W C sc W _ c h
theorem orW_list {W : Nat → Hp → Prop} {C : Cx} {sc : Scope} {b : X} (ih : Snd g ck call n b) (c : CtxOk g ck sc W n C) {eb : Expr} {es : List Expr} {pos : Pos}
    (h : (tailB es (chkT ck b sc eb) (chkW ck b sc (.BoolOp .Or (eb :: es) pos))) = true) : SW g C W (.BoolOp .Or (eb :: es) pos) (evT call b) := by
  cases es with
  | nil =>
    obtain ⟨t, h1, h2⟩ := ih.T C sc W eb c h
    exact ⟨t, pw_or1 h1, h2⟩
  | cons a as => exact ih.W C sc W _ c h
-- one reading for all blocks
def canE (g : G) (W : Nat → Hp → Prop) (f : Env → T D) : TE := fun σ H Q => ∃ r Z, Cfg g r Z σ H ∧ (f r).All (Post g Z H Q) (PostE g Z H W) (g.bud H)
def canB (g : G) (W : Nat → Hp → Prop) (f : Env → T Bool) : TT := fun σ H Q => ∃ r Z, Cfg g r Z σ H ∧ (f r).All (PostB g Z H Q) (PostE g Z H W) (g.bud H)
theorem SE.can {W : Nat → Hp → Prop} {C : Cx} {e : Expr} {f : Env → T D} (h : SE g C W e f) : PE C e (canE g W f) := by
  obtain ⟨t, h1, h2⟩ := h
  exact ⟨fun pins s σ H Q I ⟨r, Z, c, a⟩ => h1.run pins s σ H Q I (h2 r Z σ H Q c a)⟩
theorem SB.can {W : Nat → Hp → Prop} {C : Cx} {e : Expr} {f : Env → T Bool} (h : SB g C W e f) : PT C e (canB g W f) := by
  obtain ⟨t, h1, h2⟩ := h
  exact ⟨fun pins s σ H Q I ⟨r, Z, c, a⟩ => h1.run pins s σ H Q I (h2 r Z σ H Q c a)⟩
theorem simE_can {W : Nat → Hp → Prop} {f : Env → T D} : SimE g W (canE g W f) f := fun r Z σ H Q c a => ⟨r, Z, c, a⟩
theorem simB_can {W : Nat → Hp → Prop} {f : Env → T Bool} : SimB g W (canB g W f) f := fun r Z σ H Q c a => ⟨r, Z, c, a⟩
theorem tg_any {W : Nat → Hp → Prop} {C : Cx} {sc : Scope} (c : CtxOk g ck sc W n C) (F : Facts g ck call n) {scope : Scope} {tg : Tg} {e : Expr} (h : tgCell ck (relS scope sc) (fun x => scope.names.lookup x == some .cell) tg e = true) :
    ∃ t, (∀ (s : Shared) (H : Hp) (A : Addr) (cl : List (Str × Addr)) (fp : List Addr), PG (C.blk s H scope (compEnvC scope cl A C.env) fp) e t) ∧ SimG g tg t :=
  ⟨_, fun s H A cl fp => pg_tg (c.blk s H scope A cl fp) F (fun _ h => h) h, simG_tg tg⟩
theorem E_any {W : Nat → Hp → Prop} {C : Cx} {sc : Scope} {x : X} (ih : Snd g ck call n x) (c : CtxOk g ck sc W n C) {scope : Scope} {e : Expr} (h : chkE ck x (relS scope sc) e = true) :
    ∃ t, (∀ (s : Shared) (H : Hp) (A : Addr) (cl : List (Str × Addr)) (fp : List Addr), PE (C.blk s H scope (compEnvC scope cl A C.env) fp) e t) ∧ SimE g (fun _ _ => False) t (evs call x).E :=
  ⟨_, fun s H A cl fp => (ih.E _ _ _ _ (c.blk s H scope A cl fp) h).can, simE_can⟩
theorem B_any {W : Nat → Hp → Prop} {C : Cx} {sc : Scope} {x : X} (ih : Snd g ck call n x) (c : CtxOk g ck sc W n C) {scope : Scope} {e : Expr} (h : chkT ck x (relS scope sc) e = true) :
    ∃ t, (∀ (s : Shared) (H : Hp) (A : Addr) (cl : List (Str × Addr)) (fp : List Addr), PT (C.blk s H scope (compEnvC scope cl A C.env) fp) e t) ∧ SimB g (fun _ _ => False) t (evs call x).B :=
  ⟨_, fun s H A cl fp => (ih.T _ _ _ _ (c.blk s H scope A cl fp) h).can, simB_can⟩
theorem sound (F : Facts g ck call n) (x : X) : Snd g ck call n x := by
  induction x with
  | non =>
    refine constE rfl (fun C sc W e c h => ?_) (fun _ _ => rfl) (fun _ _ _ => rfl) (fun _ _ => rfl) (fun _ _ => rfl) (fun _ _ => rfl) (fun _ _ => rfl)
    cases e with
    | Constant k j p => cases k with
      | none => exact ⟨_, pe_non, sim_c fun _ => .non⟩
      | _ => exact (Bool.false_ne_true h).elim
    | _ => exact (Bool.false_ne_true h).elim
  | bl b =>
    refine constE rfl (fun C sc W e c h => ?_) (fun _ _ => rfl) (fun _ _ _ => rfl) (fun _ _ => rfl) (fun _ _ => rfl) (fun _ _ => rfl) (fun _ _ => rfl)
    cases e with
    | Constant k j p => cases k with
      | bool c =>
        cases (beq_iff_eq.mp (show (b == c) = true from h))
        exact ⟨_, pe_bl, sim_c fun _ => .bl b⟩
      | _ => exact (Bool.false_ne_true h).elim
    | _ => exact (Bool.false_ne_true h).elim
  | int b =>
    refine constE rfl (fun C sc W e c h => ?_) (fun _ _ => rfl) (fun _ _ _ => rfl) (fun _ _ => rfl) (fun _ _ => rfl) (fun _ _ => rfl) (fun _ _ => rfl)
    cases e with
    | Constant k j p => cases k with
      | int c =>
        cases (beq_iff_eq.mp (show (b == c) = true from h))
        exact ⟨_, pe_int, sim_c fun _ => .int b⟩
      | _ => exact (Bool.false_ne_true h).elim
    | _ => exact (Bool.false_ne_true h).elim
  | str b =>
    refine constE rfl (fun C sc W e c h => ?_) (fun _ _ => rfl) (fun _ _ _ => rfl) (fun _ _ => rfl) (fun _ _ => rfl) (fun _ _ => rfl) (fun _ _ => rfl)
    cases e with
    | Constant k j p => cases k with
      | str c =>
        cases (of_decide_eq_true (show decide (b = c) = true from h))
        exact ⟨_, pe_str, sim_c fun _ => .str b⟩
      | _ => exact (Bool.false_ne_true h).elim
    | _ => exact (Bool.false_ne_true h).elim
  | var i =>
    have key : ∀ (C : Cx) (sc : Scope) (W : Nat → Hp → Prop) (e : Expr), CtxOk g ck sc W n C → chkE ck (.var i) sc e = true → SE g C W e fun r => getV r i := fun C sc W e c h => by
      cases e with
      | Name x p => exact ⟨_, visB_ok c h, sim_var⟩
      | _ => exact (Bool.false_ne_true h).elim
    refine ofE_snd rfl key (fun C sc e h => ?_) (fun _ _ _ _ _ _ _ _ h => (Bool.false_ne_true h).elim) (fun sc tg e h => ?_) (fun _ _ => rfl) (fun _ _ => rfl) (fun _ _ => rfl) (fun _ _ => rfl)
    · cases e with
      | Name x p => exact ⟨h, .inl fun _ => rfl⟩
      | _ => exact (Bool.false_ne_true h).elim
    · cases e with
      | Name x p => exact h
      | _ => exact (Bool.false_ne_true h).elim
  | con y i =>
    refine constE rfl (fun C sc W e c h => ?_) (fun _ _ => rfl) (fun _ _ _ => rfl) (fun _ _ => rfl) (fun _ _ => rfl) (fun _ _ => rfl) (fun _ _ => rfl)
    cases e with
    | Name x p =>
      have h : (decide (x = y) && glB sc x && decide ((x, i) ∈ ck.cons)) = true := h
      simp only [Bool.and_eq_true, decide_eq_true_eq] at h
      obtain ⟨⟨_, h1⟩, h2⟩ := h
      obtain ⟨t, ht⟩ := F.con x i h2
      exact ⟨_, pe_glob (v := .int i) (c.gl h1) (by rw [c.mg]; exact ht) ⟨t, rfl⟩ (glB_ok h1).2.1, sim_c fun _ => .int i⟩
    | _ => exact (Bool.false_ne_true h).elim
  | bin op a b iha ihb =>
    refine constE rfl (fun C sc W e c h => ?_) (fun _ _ => rfl) (fun _ _ _ => rfl) (fun _ _ => rfl) (fun _ _ => rfl) (fun _ _ => rfl) (fun _ _ => rfl)
    cases e with
    | BinOp ea o eb p =>
      have h : (bopB op o && chkE ck a sc ea && chkE ck b sc eb) = true := h
      simp only [Bool.and_eq_true] at h
      obtain ⟨⟨h0, h1⟩, h2⟩ := h
      obtain ⟨ta, q1, q2⟩ := iha.E C sc W _ c h1
      obtain ⟨tb, k1, k2⟩ := ihb.E C sc W _ c h2
      exact ⟨_, pe_op (rB_o c h0) q1 k1, sim_op (rB_s op) q2 k2⟩
    | _ => exact (Bool.false_ne_true h).elim
  | neg a iha =>
    refine constE rfl (fun C sc W e c h => ?_) (fun _ _ => rfl) (fun _ _ _ => rfl) (fun _ _ => rfl) (fun _ _ => rfl) (fun _ _ => rfl) (fun _ _ => rfl)
    cases e with
    | UnaryOp o ea p => cases o with
      | USub =>
        obtain ⟨ta, q1, q2⟩ := iha.E C sc W _ c h
        exact ⟨_, pe_un un_neg q1, sim_neg q2⟩
      | _ => exact (Bool.false_ne_true h).elim
    | _ => exact (Bool.false_ne_true h).elim
  | cmp op a b iha ihb =>
    have inv : ∀ {sc : Scope} {e : Expr}, chkE ck (.cmp op a b) sc e = true → ∃ ea o eb p, e = .Compare ea [o] [eb] p ∧ copB op o = true ∧ chkE ck a sc ea = true ∧ chkE ck b sc eb = true ∧ behindInMarks o eb = false := fun {sc e} h => by
      cases e with
      | Compare ea os es p =>
        match os, es, h with
        | [o], [eb], h =>
          have h : (copB op o && chkE ck a sc ea && chkE ck b sc eb && !(behindInMarks o eb)) = true := h
          simp only [Bool.and_eq_true, Bool.not_eq_true'] at h
          exact ⟨ea, o, eb, p, rfl, h.1.1.1, h.1.1.2, h.1.2, h.2⟩
        | [], _, h => exact (Bool.false_ne_true h).elim
        | [_], [], h => exact (Bool.false_ne_true h).elim
        | [_], _ :: _ :: _, h => exact (Bool.false_ne_true h).elim
        | _ :: _ :: _, _, h => exact (Bool.false_ne_true h).elim
      | _ => exact (Bool.false_ne_true h).elim
    have same : ∀ sc e, chkT ck (.cmp op a b) sc e = true → chkE ck (.cmp op a b) sc e = true := fun sc e h => by
      cases e with
      | Compare ea os es p =>
        match os, es, h with
        | [o], [eb], h => exact h
        | [], _, h => exact (Bool.false_ne_true h).elim
        | [_], [], h => exact (Bool.false_ne_true h).elim
        | [_], _ :: _ :: _, h => exact (Bool.false_ne_true h).elim
        | _ :: _ :: _, _, h => exact (Bool.false_ne_true h).elim
      | _ => exact (Bool.false_ne_true h).elim
    refine ofE_snd rfl (fun C sc W e c h => ?_) (fun C sc e h => ?_) (fun C sc W ea os es p c h => ?_) (fun _ _ _ h => (Bool.false_ne_true h).elim) (fun _ _ => rfl) (fun _ _ => rfl) (fun _ _ => rfl) (fun _ _ => rfl)
    · obtain ⟨ea, o, eb, p, rfl, h0, h1, h2, h3⟩ := inv h
      obtain ⟨ta, q1, q2⟩ := iha.E C sc W _ c h1
      obtain ⟨tb, k1, k2⟩ := ihb.E C sc W _ c h2
      exact ⟨_, pe_cmpR (rC_o c h0) q1 k1 h3, sim_cmp (rC_s op) q2 k2⟩
    · have h' := same sc e h
      obtain ⟨ea, o, eb, p, rfl, _⟩ := inv h'
      exact ⟨h', .inr ⟨_, _, _, _, rfl⟩⟩
    · obtain ⟨ea, o, eb, p, e, h0, h1, h2, h3⟩ := inv (same sc _ h)
      rw [e]
      obtain ⟨ta, q1, q2⟩ := iha.E C sc W _ c h1
      obtain ⟨tb, k1, k2⟩ := ihb.E C sc W _ c h2
      exact ⟨_, pt_cmpR (rC_o c h0) q1 k1 h3, sim_test (sim_cmp (rC_s op) q2 k2)⟩
  | chain op oq a b cc iha ihb ihc =>
    have inv : ∀ {sc : Scope} {e : Expr}, chkE ck (.chain op oq a b cc) sc e = true → ∃ ea o q eb ec p, e = .Compare ea [o, q] [eb, ec] p ∧ copB op o = true ∧ copB oq q = true ∧ chkE ck a sc ea = true ∧ chkE ck b sc eb = true ∧ chkE ck cc sc ec = true ∧ lastMarks [o, q] [eb, ec] = false := fun {sc e} h => by
      cases e with
      | Compare ea os es p =>
        match os, es, h with
        | [o, q], [eb, ec], h =>
          have h : (copB op o && copB oq q && chkE ck a sc ea && chkE ck b sc eb && chkE ck cc sc ec && !(lastMarks [o, q] [eb, ec])) = true := h
          simp only [Bool.and_eq_true, Bool.not_eq_true'] at h
          exact ⟨ea, o, q, eb, ec, p, rfl, h.1.1.1.1.1, h.1.1.1.1.2, h.1.1.1.2, h.1.1.2, h.1.2, h.2⟩
        | [], _, h => exact (Bool.false_ne_true h).elim
        | [_], _, h => exact (Bool.false_ne_true h).elim
        | [_, _], [], h => exact (Bool.false_ne_true h).elim
        | [_, _], [_], h => exact (Bool.false_ne_true h).elim
        | [_, _], _ :: _ :: _ :: _, h => exact (Bool.false_ne_true h).elim
        | _ :: _ :: _ :: _, _, h => exact (Bool.false_ne_true h).elim
      | _ => exact (Bool.false_ne_true h).elim
    have same : ∀ sc e, chkT ck (.chain op oq a b cc) sc e = true → chkE ck (.chain op oq a b cc) sc e = true := fun sc e h => by
      cases e with
      | Compare ea os es p =>
        match os, es, h with
        | [o, q], [eb, ec], h => exact h
        | [], _, h => exact (Bool.false_ne_true h).elim
        | [_], _, h => exact (Bool.false_ne_true h).elim
        | [_, _], [], h => exact (Bool.false_ne_true h).elim
        | [_, _], [_], h => exact (Bool.false_ne_true h).elim
        | [_, _], _ :: _ :: _ :: _, h => exact (Bool.false_ne_true h).elim
        | _ :: _ :: _ :: _, _, h => exact (Bool.false_ne_true h).elim
      | _ => exact (Bool.false_ne_true h).elim
    refine ofE_snd rfl (fun C sc W e c h => ?_) (fun C sc e h => ?_) (fun C sc W ea os es p c h => ?_) (fun _ _ _ h => (Bool.false_ne_true h).elim) (fun _ _ => rfl) (fun _ _ => rfl) (fun _ _ => rfl) (fun _ _ => rfl)
    · obtain ⟨ea, o, q, eb, ec, p, rfl, h0, h0', h1, h2, h3, h4⟩ := inv h
      obtain ⟨ta, q1, q2⟩ := iha.E C sc W _ c h1
      obtain ⟨tb, k1, k2⟩ := ihb.E C sc W _ c h2
      obtain ⟨tc, j1, j2⟩ := ihc.E C sc W _ c h3
      exact ⟨_, pe_chain (rC_o c h0) (rC_o c h0') q1 k1 j1 h4, sim_chain (rC_s op) (rC_s oq) q2 k2 j2⟩
    · have h' := same sc e h
      obtain ⟨ea, o, q, eb, ec, p, rfl, _⟩ := inv h'
      exact ⟨h', .inr ⟨_, _, _, _, rfl⟩⟩
    · obtain ⟨ea, o, q, eb, ec, p, e, h0, h0', h1, h2, h3, h4⟩ := inv (same sc _ h)
      rw [e]
      obtain ⟨ta, q1, q2⟩ := iha.E C sc W _ c h1
      obtain ⟨tb, k1, k2⟩ := ihb.E C sc W _ c h2
      obtain ⟨tc, j1, j2⟩ := ihc.E C sc W _ c h3
      exact ⟨_, pt_chain (rC_o c h0) (rC_o c h0') q1 k1 j1 h4, sim_test (sim_chain (rC_s op) (rC_s oq) q2 k2 j2)⟩
  | and a b iha ihb =>
    have hW : ∀ (C : Cx) (sc : Scope) (W : Nat → Hp → Prop) (e : Expr), CtxOk g ck sc W n C → (∃ ea eb es p, e = .BoolOp .And (ea :: eb :: es) p ∧ chkT ck a sc ea = true ∧ (tailB es (chkT ck b sc eb) (chkW ck b sc (.BoolOp .And (eb :: es) p))) = true) → SW g C W e (evT call (.and a b)) := fun C sc W e c h => by
      obtain ⟨ea, eb, es, p, rfl, h1, h2⟩ := h
      obtain ⟨ta, q1, q2⟩ := iha.T C sc W _ c h1
      obtain ⟨tb, k1, k2⟩ := andW_list ihb c h2
      exact ⟨_, pw_and q1 k1, sim_andT q2 k2⟩
    have inv : ∀ {sc : Scope} {e : Expr}, chkT ck (.and a b) sc e = true ∨ chkW ck (.and a b) sc e = true → ∃ ea eb es p, e = .BoolOp .And (ea :: eb :: es) p ∧ chkT ck a sc ea = true ∧ (tailB es (chkT ck b sc eb) (chkW ck b sc (.BoolOp .And (eb :: es) p))) = true := fun {sc e} h => by
      cases e with
      | BoolOp o vs p =>
        match o, vs, h with
        | .And, ea :: eb :: es, h =>
          have h : (chkT ck a sc ea && (tailB es (chkT ck b sc eb) (chkW ck b sc (.BoolOp .And (eb :: es) p)))) = true := by
            rcases h with h | h
            · exact h
            · exact h
          rw [Bool.and_eq_true] at h
          exact ⟨ea, eb, es, p, rfl, h.1, h.2⟩
        | .And, [], h => exact h.elim (fun h => (Bool.false_ne_true h).elim) fun h => (Bool.false_ne_true h).elim
        | .And, [_], h => exact h.elim (fun h => (Bool.false_ne_true h).elim) fun h => (Bool.false_ne_true h).elim
        | .Or, _, h => exact h.elim (fun h => (Bool.false_ne_true h).elim) fun h => (Bool.false_ne_true h).elim
      | _ => exact h.elim (fun h => (Bool.false_ne_true h).elim) fun h => (Bool.false_ne_true h).elim
    refine ⟨fun C sc W e c h => ?_, fun C sc W e c h => ?_, fun C sc W e c h => hW C sc W e c (inv (.inr h)), fun C sc W e c h => (Bool.false_ne_true h).elim, fun C sc W e c h => (Bool.false_ne_true h).elim, fun C sc W e c h => (Bool.false_ne_true h).elim, fun C sc W tg e c h => (Bool.false_ne_true h).elim⟩
    · cases e with
      | BoolOp o vs p =>
        match o, vs, h with
        | .And, ea :: eb :: es, h =>
          have h : (chkE ck a sc ea && (tailB es (chkE ck b sc eb) (chkE ck b sc (.BoolOp .And (eb :: es) p)))) = true := h
          rw [Bool.and_eq_true] at h
          obtain ⟨ta, q1, q2⟩ := iha.E C sc W _ c h.1
          obtain ⟨tb, k1, k2⟩ := and_list ihb c h.2
          exact ⟨_, pe_and q1 k1, sim_andV q2 k2⟩
        | .And, [], h => exact (Bool.false_ne_true h).elim
        | .And, [_], h => exact (Bool.false_ne_true h).elim
        | .Or, _, h => exact (Bool.false_ne_true h).elim
      | _ => exact (Bool.false_ne_true h).elim
    · obtain ⟨t, h1, h2⟩ := hW C sc W e c (inv (.inl h))
      exact ⟨t, h1.pt, h2⟩
  | or a b iha ihb =>
    have hW : ∀ (C : Cx) (sc : Scope) (W : Nat → Hp → Prop) (e : Expr), CtxOk g ck sc W n C → (∃ ea eb es p, e = .BoolOp .Or (ea :: eb :: es) p ∧ chkT ck a sc ea = true ∧ (tailB es (chkT ck b sc eb) (chkW ck b sc (.BoolOp .Or (eb :: es) p))) = true) → SW g C W e (evT call (.or a b)) := fun C sc W e c h => by
      obtain ⟨ea, eb, es, p, rfl, h1, h2⟩ := h
      obtain ⟨ta, q1, q2⟩ := iha.T C sc W _ c h1
      obtain ⟨tb, k1, k2⟩ := orW_list ihb c h2
      exact ⟨_, pw_or q1 k1, sim_orT q2 k2⟩
    have inv : ∀ {sc : Scope} {e : Expr}, chkT ck (.or a b) sc e = true ∨ chkW ck (.or a b) sc e = true → ∃ ea eb es p, e = .BoolOp .Or (ea :: eb :: es) p ∧ chkT ck a sc ea = true ∧ (tailB es (chkT ck b sc eb) (chkW ck b sc (.BoolOp .Or (eb :: es) p))) = true := fun {sc e} h => by
      cases e with
      | BoolOp o vs p =>
        match o, vs, h with
        | .Or, ea :: eb :: es, h =>
          have h : (chkT ck a sc ea && (tailB es (chkT ck b sc eb) (chkW ck b sc (.BoolOp .Or (eb :: es) p)))) = true := by
            rcases h with h | h
            · exact h
            · exact h
          rw [Bool.and_eq_true] at h
          exact ⟨ea, eb, es, p, rfl, h.1, h.2⟩
        | .Or, [], h => exact h.elim (fun h => (Bool.false_ne_true h).elim) fun h => (Bool.false_ne_true h).elim
        | .Or, [_], h => exact h.elim (fun h => (Bool.false_ne_true h).elim) fun h => (Bool.false_ne_true h).elim
        | .And, _, h => exact h.elim (fun h => (Bool.false_ne_true h).elim) fun h => (Bool.false_ne_true h).elim
      | _ => exact h.elim (fun h => (Bool.false_ne_true h).elim) fun h => (Bool.false_ne_true h).elim
    refine ⟨fun C sc W e c h => ?_, fun C sc W e c h => ?_, fun C sc W e c h => hW C sc W e c (inv (.inr h)), fun C sc W e c h => (Bool.false_ne_true h).elim, fun C sc W e c h => (Bool.false_ne_true h).elim, fun C sc W e c h => (Bool.false_ne_true h).elim, fun C sc W tg e c h => (Bool.false_ne_true h).elim⟩
    · cases e with
      | BoolOp o vs p =>
        match o, vs, h with
        | .Or, ea :: eb :: es, h =>
          have h : (chkE ck a sc ea && (tailB es (chkE ck b sc eb) (chkE ck b sc (.BoolOp .Or (eb :: es) p)))) = true := h
          rw [Bool.and_eq_true] at h
          obtain ⟨ta, q1, q2⟩ := iha.E C sc W _ c h.1
          obtain ⟨tb, k1, k2⟩ := and_list ihb c h.2
          exact ⟨_, pe_or q1 k1, sim_orV q2 k2⟩
        | .Or, [], h => exact (Bool.false_ne_true h).elim
        | .Or, [_], h => exact (Bool.false_ne_true h).elim
        | .And, _, h => exact (Bool.false_ne_true h).elim
      | _ => exact (Bool.false_ne_true h).elim
    · obtain ⟨t, h1, h2⟩ := hW C sc W e c (inv (.inl h))
      exact ⟨t, h1.pt, h2⟩
  | not a iha =>
    refine ⟨fun C sc W e c h => ?_, fun C sc W e c h => ?_, fun C sc W e c h => (Bool.false_ne_true h).elim, fun C sc W e c h => (Bool.false_ne_true h).elim, fun C sc W e c h => (Bool.false_ne_true h).elim, fun C sc W e c h => (Bool.false_ne_true h).elim, fun C sc W tg e c h => (Bool.false_ne_true h).elim⟩
    · cases e with
      | UnaryOp o ea p => cases o with
        | Not =>
          obtain ⟨ta, q1, q2⟩ := iha.E C sc W _ c h
          exact ⟨_, pe_not q1, sim_notV q2⟩
        | _ => exact (Bool.false_ne_true h).elim
      | _ => exact (Bool.false_ne_true h).elim
    · cases e with
      | UnaryOp o ea p => cases o with
        | Not =>
          obtain ⟨ta, q1, q2⟩ := iha.T C sc W _ c h
          exact ⟨_, pt_not q1, sim_notT q2⟩
        | _ => exact (Bool.false_ne_true h).elim
      | _ => exact (Bool.false_ne_true h).elim
  | ite t a b iht iha ihb =>
    refine constE rfl (fun C sc W e c h => ?_) (fun _ _ => rfl) (fun _ _ _ => rfl) (fun _ _ => rfl) (fun _ _ => rfl) (fun _ _ => rfl) (fun _ _ => rfl)
    cases e with
    | IfExp et ea eb p =>
      have h : (chkT ck t sc et && chkE ck a sc ea && chkE ck b sc eb) = true := h
      simp only [Bool.and_eq_true] at h
      obtain ⟨⟨h0, h1⟩, h2⟩ := h
      obtain ⟨tt, j1, j2⟩ := iht.T C sc W _ c h0
      obtain ⟨ta, q1, q2⟩ := iha.E C sc W _ c h1
      obtain ⟨tb, k1, k2⟩ := ihb.E C sc W _ c h2
      exact ⟨_, pe_ifExp j1 q1 k1, sim_if j2 q2 k2⟩
    | _ => exact (Bool.false_ne_true h).elim
  | tup as ih =>
    have key : ∀ (C : Cx) (sc : Scope) (W : Nat → Hp → Prop) (e : Expr), CtxOk g ck sc W n C → chkE ck (.tup as) sc e = true → SE g C W e (fun r => (evs call as).A r >>= fun ds => lenT ds (.tup ds)) := fun C sc W e c h => by
      cases e with
      | Tuple es k p =>
        obtain ⟨ta, q1, q2⟩ := ih.A C sc W _ c h
        exact ⟨_, pe_tup q1.1, sim_tup q2⟩
      | _ => exact (Bool.false_ne_true h).elim
    refine ofE_snd rfl key (fun C sc e h => (Bool.false_ne_true h).elim) (fun _ _ _ _ _ _ _ _ h => (Bool.false_ne_true h).elim) (fun sc tg e h => ?_) (fun _ _ => rfl) (fun _ _ => rfl) (fun _ _ => rfl) (fun _ _ => rfl)
    cases e with
    | Tuple es k p => exact h
    | _ => exact (Bool.false_ne_true h).elim
  | lst as ih =>
    have key : ∀ (C : Cx) (sc : Scope) (W : Nat → Hp → Prop) (e : Expr), CtxOk g ck sc W n C → chkE ck (.lst as) sc e = true → SE g C W e (fun r => (evs call as).A r >>= fun ds => lenT ds (.new ds)) := fun C sc W e c h => by
      cases e with
      | List es p =>
        obtain ⟨ta, q1, q2⟩ := ih.A C sc W _ c h
        exact ⟨_, pe_lst q1.1, sim_lst q2⟩
      | _ => exact (Bool.false_ne_true h).elim
    refine ofE_snd rfl key (fun C sc e h => (Bool.false_ne_true h).elim) (fun _ _ _ _ _ _ _ _ h => (Bool.false_ne_true h).elim) (fun sc tg e h => ?_) (fun _ _ => rfl) (fun _ _ => rfl) (fun _ _ => rfl) (fun _ _ => rfl)
    cases e with
    | List es p => exact h
    | _ => exact (Bool.false_ne_true h).elim
  | nil =>
    refine ⟨fun C sc W e c h => (Bool.false_ne_true h).elim, fun C sc W e c h => (Bool.false_ne_true h).elim, fun C sc W e c h => (Bool.false_ne_true h).elim, fun C sc W e c h => ?_, fun C sc W e c h => ?_, fun C sc W e c h => (Bool.false_ne_true h).elim, fun C sc W tg e c h => (Bool.false_ne_true h).elim⟩
    · cases e with
      | nil => exact ⟨_, ⟨pa_nil, fun kws hk => by cases List.map_eq_nil_iff.mp hk; exact pk_nil⟩, sim_nilA⟩
      | cons _ _ => exact (Bool.false_ne_true h).elim
    · cases e with
      | nil => exact ⟨_, pa_nil, sim_nilR⟩
      | cons _ _ => exact (Bool.false_ne_true h).elim
  | cons a as iha ihs =>
    refine ⟨fun C sc W e c h => (Bool.false_ne_true h).elim, fun C sc W e c h => (Bool.false_ne_true h).elim, fun C sc W e c h => (Bool.false_ne_true h).elim, fun C sc W e c h => ?_, fun C sc W e c h => ?_, fun C sc W e c h => (Bool.false_ne_true h).elim, fun C sc W tg e c h => (Bool.false_ne_true h).elim⟩
    · cases e with
      | nil => exact (Bool.false_ne_true h).elim
      | cons e es =>
        have h : (chkE ck a sc e && plainE e && chkA ck as sc es) = true := h
        simp only [Bool.and_eq_true] at h
        obtain ⟨ta, q1, q2⟩ := iha.E C sc W _ c h.1.1
        obtain ⟨tb, k1, k2⟩ := ihs.A C sc W _ c h.2
        refine ⟨_, ⟨pa_cons q1 k1.1 (plain_star h.1.2), fun kws hk => ?_⟩, sim_consA q2 k2⟩
        cases kws with
        | nil => cases hk
        | cons kw kws =>
          obtain ⟨nm, e', kp⟩ := kw
          cases hk
          exact pk_cons q1 (k1.2 kws rfl)
    · cases e with
      | nil => exact (Bool.false_ne_true h).elim
      | cons e es =>
        have h : (chkE ck a sc e && plainE e && chkR ck as sc es) = true := h
        simp only [Bool.and_eq_true] at h
        obtain ⟨ta, q1, q2⟩ := iha.E C sc W _ c h.1.1
        obtain ⟨tb, k1, k2⟩ := ihs.R C sc W _ c h.2
        exact ⟨_, pa_cons q1 k1 (plain_star h.1.2), sim_consR q2 k2⟩
  | idx a i iha ihi =>
    have key : ∀ (C : Cx) (sc : Scope) (W : Nat → Hp → Prop) (e : Expr), CtxOk g ck sc W n C → chkE ck (.idx a i) sc e = true → SE g C W e (fun r => (evs call a).E r >>= fun x => (evs call i).E r >>= fun y => idxT x y) := fun C sc W e c h => by
      cases e with
      | Subscript ea ei p =>
        have h : (chkE ck a sc ea && chkE ck i sc ei && plainIxB ei) = true := by
          cases ei <;> first
            | exact h
            | exact (Bool.false_ne_true h).elim
        simp only [Bool.and_eq_true] at h
        obtain ⟨ta, q1, q2⟩ := iha.E C sc W _ c h.1.1
        obtain ⟨tb, k1, k2⟩ := ihi.E C sc W _ c h.1.2
        have e1 : IxR C (rIx g.K) := by rw [← c.K]; exact ix_seq
        exact ⟨_, pe_ix e1 q1 k1 (plainIx_ok h.2), sim_op ops_idx q2 k2⟩
      | _ => exact (Bool.false_ne_true h).elim
    refine ofE_snd rfl key (fun C sc e h => (Bool.false_ne_true h).elim) (fun _ _ _ _ _ _ _ _ h => (Bool.false_ne_true h).elim) (fun sc tg e h => ?_) (fun _ _ => rfl) (fun _ _ => rfl) (fun _ _ => rfl) (fun _ _ => rfl)
    cases e with
    | Subscript ea ei p => cases ei <;> exact h
    | _ => exact (Bool.false_ne_true h).elim
  | slc a lo hi iha ihl ihh =>
    have key : ∀ (C : Cx) (sc : Scope) (W : Nat → Hp → Prop) (e : Expr), CtxOk g ck sc W n C → chkE ck (.slc a lo hi) sc e = true → SE g C W e (fun r => (evs call a).E r >>= fun x => (evs call lo).O r >>= fun l => (evs call hi).O r >>= fun h => slcT x l h) := fun C sc W e c h => by
      cases e with
      | Subscript ea ei p => cases ei with
        | Slice l hh st p2 => cases st with
          | none =>
            have h : (chkE ck a sc ea && chkO ck lo sc l && chkO ck hi sc hh) = true := h
            simp only [Bool.and_eq_true] at h
            obtain ⟨ta, q1, q2⟩ := iha.E C sc W _ c h.1.1
            obtain ⟨tl, k1, k2⟩ := ihl.O C sc W _ c h.1.2
            obtain ⟨th, j1, j2⟩ := ihh.O C sc W _ c h.2
            have e1 : SlR C (fun x lo hi H Q => rSlL g.K x lo hi H Q ∨ rSlA g.K x lo hi H Q) := by rw [← c.K]; exact sl_list.or sl_tupA
            exact ⟨_, pe_slice e1 q1 k1 j1, sim_slc q2 k2 j2⟩
          | some _ => exact (Bool.false_ne_true h).elim
        | _ => exact (Bool.false_ne_true h).elim
      | _ => exact (Bool.false_ne_true h).elim
    refine ofE_snd rfl key (fun C sc e h => (Bool.false_ne_true h).elim) (fun _ _ _ _ _ _ _ _ h => (Bool.false_ne_true h).elim) (fun sc tg e h => ?_) (fun _ _ => rfl) (fun _ _ => rfl) (fun _ _ => rfl) (fun _ _ => rfl)
    cases e with
    | Subscript ea ei p => cases ei with
      | Slice l hh st p2 => cases st with
        | none => exact h
        | some _ => exact (Bool.false_ne_true h).elim
      | _ => exact (Bool.false_ne_true h).elim
    | _ => exact (Bool.false_ne_true h).elim
  | part a iha =>
    refine ⟨fun C sc W e c h => (Bool.false_ne_true h).elim, fun C sc W e c h => (Bool.false_ne_true h).elim, fun C sc W e c h => (Bool.false_ne_true h).elim, fun C sc W e c h => (Bool.false_ne_true h).elim, fun C sc W e c h => (Bool.false_ne_true h).elim, fun C sc W e c h => ?_, fun C sc W tg e c h => (Bool.false_ne_true h).elim⟩
    cases e with
    | none => exact (Bool.false_ne_true h).elim
    | some e =>
      obtain ⟨ta, q1, q2⟩ := iha.E C sc W _ c h
      exact ⟨_, po_some q1, sim_part q2⟩
  | nopart =>
    refine ⟨fun C sc W e c h => (Bool.false_ne_true h).elim, fun C sc W e c h => (Bool.false_ne_true h).elim, fun C sc W e c h => (Bool.false_ne_true h).elim, fun C sc W e c h => (Bool.false_ne_true h).elim, fun C sc W e c h => (Bool.false_ne_true h).elim, fun C sc W e c h => ?_, fun C sc W tg e c h => (Bool.false_ne_true h).elim⟩
    cases e with
    | none => exact ⟨_, po_none, sim_noPart⟩
    | some e => exact (Bool.false_ne_true h).elim
  | call f as ih =>
    have inv : ∀ {sc : Scope} {e : Expr}, chkE ck (.call f as) sc e = true → ∃ x p e' es pos, e = .Call (.Name x p) (e' :: es) [] pos ∧ (glB sc x && decide ((f, x, (e' :: es).length) ∈ ck.fns) && chkA ck as sc (e' :: es) && (e' :: es).all plainE) = true := fun {sc e} h => by
      cases e with
      | Call fn args kws pos => cases fn with
        | Name x p =>
          match args, kws, h with
          | e' :: es, [], h => exact ⟨x, p, e', es, pos, rfl, h⟩
          | [], _, h => exact (Bool.false_ne_true h).elim
          | _ :: _, _ :: _, h => exact (Bool.false_ne_true h).elim
        | _ => exact (Bool.false_ne_true h).elim
      | _ => exact (Bool.false_ne_true h).elim
    have key : ∀ (C : Cx) (sc : Scope) (W : Nat → Hp → Prop) (e : Expr), CtxOk g ck sc W n C → chkE ck (.call f as) sc e = true → SE g C W e (fun r => (evs call as).A r >>= fun ds => call f ds) := fun C sc W e c h => by
      obtain ⟨x, p, e', es, pos, rfl, h⟩ := inv h
      exact se_call c F ih h
    refine ofE_snd rfl key (fun C sc e h => ?_) (fun _ _ _ _ _ _ _ _ h => (Bool.false_ne_true h).elim) (fun sc tg e h => ?_) (fun _ _ => rfl) (fun _ _ => rfl) (fun _ _ => rfl) (fun _ _ => rfl)
    · cases e with
      | Call fn args kws pos => cases fn with
        | Name x p =>
          match args, kws, h with
          | e' :: es, [], h => exact ⟨h, .inl fun _ => rfl⟩
          | [], _, h => exact (Bool.false_ne_true h).elim
          | _ :: _, _ :: _, h => exact (Bool.false_ne_true h).elim
        | _ => exact (Bool.false_ne_true h).elim
      | _ => exact (Bool.false_ne_true h).elim
    · cases e with
      | Call fn args kws pos => cases fn with
        | Name x p =>
          match args, kws, h with
          | e' :: es, [], h => exact h
          | [], _, h => exact (Bool.false_ne_true h).elim
          | _ :: _, _ :: _, h => exact (Bool.false_ne_true h).elim
        | _ => exact (Bool.false_ne_true h).elim
      | _ => exact (Bool.false_ne_true h).elim
  | callK f perm as ih =>
    have inv : ∀ {sc : Scope} {e : Expr}, chkE ck (.callK f perm as) sc e = true → ∃ x p kws pos, e = .Call (.Name x p) [] kws pos ∧ (glB sc x && decide ((f, x, kwNames kws, perm) ∈ ck.kws) && kwSome kws && chkA ck as sc (kws.map (·.value))) = true := fun {sc e} h => by
      cases e with
      | Call fn args kws pos => cases fn with
        | Name x p =>
          match args, kws, h with
          | [], kw :: kws, h => exact ⟨x, p, kw :: kws, pos, rfl, h⟩
          | [], [], h => exact (Bool.false_ne_true h).elim
          | _ :: _, _, h => exact (Bool.false_ne_true h).elim
        | _ => exact (Bool.false_ne_true h).elim
      | _ => exact (Bool.false_ne_true h).elim
    have key : ∀ (C : Cx) (sc : Scope) (W : Nat → Hp → Prop) (e : Expr), CtxOk g ck sc W n C → chkE ck (.callK f perm as) sc e = true → SE g C W e (fun r => (evs call as).A r >>= fun ds => ofO (permD perm ds) >>= fun ds => call f ds) := fun C sc W e c h => by
      obtain ⟨x, p, kws, pos, rfl, h2⟩ := inv h
      exact se_callK c F ih h2
    refine ofE_snd rfl key (fun C sc e h => ?_) (fun _ _ _ _ _ _ _ _ h => (Bool.false_ne_true h).elim) (fun sc tg e h => ?_) (fun _ _ => rfl) (fun _ _ => rfl) (fun _ _ => rfl) (fun _ _ => rfl)
    · cases e with
      | Call fn args kws pos => cases fn with
        | Name x p =>
          match args, kws, h with
          | [], kw :: kws, h => exact ⟨h, .inl fun _ => rfl⟩
          | [], [], h => exact (Bool.false_ne_true h).elim
          | _ :: _, _, h => exact (Bool.false_ne_true h).elim
        | _ => exact (Bool.false_ne_true h).elim
      | _ => exact (Bool.false_ne_true h).elim
    · cases e with
      | Call fn args kws pos => cases fn with
        | Name x p =>
          match args, kws, h with
          | [], kw :: kws, h => exact h
          | [], [], h => exact (Bool.false_ne_true h).elim
          | _ :: _, _, h => exact (Bool.false_ne_true h).elim
        | _ => exact (Bool.false_ne_true h).elim
      | _ => exact (Bool.false_ne_true h).elim
  | blt f as ih =>
    have key : ∀ (C : Cx) (sc : Scope) (W : Nat → Hp → Prop) (e : Expr), CtxOk g ck sc W n C → chkE ck (.blt f as) sc e = true → SE g C W e (fun r => (evs call as).R r >>= fun ds => bltT f ds) := fun C sc W e c h => by
      cases e with
      | Call fn args kws pos => cases fn with
        | Name x p =>
          match args, kws, h with
          | e' :: es, [], h => exact se_blt c F ih h
          | [], _, h => exact (Bool.false_ne_true h).elim
          | _ :: _, _ :: _, h => exact (Bool.false_ne_true h).elim
        | _ => exact (Bool.false_ne_true h).elim
      | _ => exact (Bool.false_ne_true h).elim
    refine ofE_snd rfl key (fun C sc e h => ?_) (fun _ _ _ _ _ _ _ _ h => (Bool.false_ne_true h).elim) (fun sc tg e h => ?_) (fun _ _ => rfl) (fun _ _ => rfl) (fun _ _ => rfl) (fun _ _ => rfl)
    · cases e with
      | Call fn args kws pos => cases fn with
        | Name x p =>
          match args, kws, h with
          | e' :: es, [], h => exact ⟨h, .inl fun _ => rfl⟩
          | [], _, h => exact (Bool.false_ne_true h).elim
          | _ :: _, _ :: _, h => exact (Bool.false_ne_true h).elim
        | _ => exact (Bool.false_ne_true h).elim
      | _ => exact (Bool.false_ne_true h).elim
    · cases e with
      | Call fn args kws pos => cases fn with
        | Name x p =>
          match args, kws, h with
          | e' :: es, [], h => exact h
          | [], _, h => exact (Bool.false_ne_true h).elim
          | _ :: _, _ :: _, h => exact (Bool.false_ne_true h).elim
        | _ => exact (Bool.false_ne_true h).elim
      | _ => exact (Bool.false_ne_true h).elim
  | isk f a ih =>
    have inv : ∀ {sc : Scope} {e : Expr}, chkE ck (.isk f a) sc e = true ∨ chkT ck (.isk f a) sc e = true → ∃ x p e' y p2 pos, e = .Call (.Name x p) [e', .Name y p2] [] pos ∧ (glB sc x && decide (x = bltName f) && glB sc y && decide (kindName f = some y) && chkE ck a sc e' && plainE e') = true := fun {sc e} h => by
      cases e with
      | Call fn args kws pos => cases fn with
        | Name x p =>
          match args, kws, h with
          | [e', e2], [], h => cases e2 with
            | Name y p2 => exact ⟨x, p, e', y, p2, pos, rfl, h.elim (fun h => h) fun h => h⟩
            | _ => exact h.elim (fun h => (Bool.false_ne_true h).elim) fun h => (Bool.false_ne_true h).elim
          | [], _, h => exact h.elim (fun h => (Bool.false_ne_true h).elim) fun h => (Bool.false_ne_true h).elim
          | [_], _, h => exact h.elim (fun h => (Bool.false_ne_true h).elim) fun h => (Bool.false_ne_true h).elim
          | [_, e2], _ :: _, h => cases e2 <;> exact h.elim (fun h => (Bool.false_ne_true h).elim) fun h => (Bool.false_ne_true h).elim
          | _ :: e2 :: _ :: _, _, h => cases e2 <;> exact h.elim (fun h => (Bool.false_ne_true h).elim) fun h => (Bool.false_ne_true h).elim
        | _ => exact h.elim (fun h => (Bool.false_ne_true h).elim) fun h => (Bool.false_ne_true h).elim
      | _ => exact h.elim (fun h => (Bool.false_ne_true h).elim) fun h => (Bool.false_ne_true h).elim
    refine ofE_snd rfl (fun C sc W e c h => ?_) (fun C sc e h => ?_) (fun _ _ _ _ _ _ _ _ h => (Bool.false_ne_true h).elim) (fun sc tg e h => (Bool.false_ne_true h).elim) (fun _ _ => rfl) (fun _ _ => rfl) (fun _ _ => rfl) (fun _ _ => rfl)
    · obtain ⟨x, p, e', y, p2, pos, rfl, h⟩ := inv (.inl h)
      exact se_isk c F ih h
    · obtain ⟨x, p, e', y, p2, pos, rfl, h⟩ := inv (.inr h)
      exact ⟨h, .inl fun _ => rfl⟩
  | comp tg it cond elt own ihi ihc ihe =>
    refine constE rfl (fun C sc W e c h => ?_) (fun _ _ => rfl) (fun _ _ _ => rfl) (fun _ _ => rfl) (fun _ _ => rfl) (fun _ _ => rfl) (fun _ _ => rfl)
    cases e with
    | ListComp el gens scope pos =>
      match gens, h with
      | [⟨tge, ite, ifs, asy⟩], h =>
        by_cases ha : asy = 0
        · subst ha
          have h : (blkC ck.N sc scope own && tgCell ck (relS scope sc) (fun x => scope.names.lookup x == some .cell) tg tge && tgIn own tg && notSetB ite && chkI ck it sc tge ite && condB ifs (isYes cond) (chkT ck cond (relS scope sc)) && chkE ck elt (relS scope sc) el) = true := h
          simp only [Bool.and_eq_true] at h
          obtain ⟨⟨⟨⟨⟨⟨h1, h2⟩, h3⟩, h4⟩, h5⟩, h6⟩, h7⟩ := h
          obtain ⟨wi, q1, q2⟩ := ihi.I C sc W _ _ c h5
          have hb : BlkOk C.N C.env.scope scope own := by
            rw [c.N, c.sc]
            exact blkOk_by h1
          have hN : C.N.Nodup := by rw [c.N]; exact F.nd
          have e1 : evT call cond = (evs call cond).B := rfl
          -- the parts, whatever the block's own heap
          have blk := fun (s : Shared) (H : Hp) (A : Addr) (cl : List (Str × Addr)) (fp : List Addr) => c.blk s H scope A cl fp
          obtain ⟨gt, hg, sg⟩ := tg_any c F h2
          obtain ⟨te, he, se⟩ := E_any ihe c h7
          have hc : ∃ tt, (∀ (s : Shared) (H : Hp) (A : Addr) (cl : List (Str × Addr)) (fp : List Addr), PTs (C.blk s H scope (compEnvC scope cl A C.env) fp) ifs tt) ∧ SimB g (fun _ _ => False) tt (evs call cond).B := by
            match ifs, h6 with
            | [], h6 =>
              cases cond <;> first
                | exact (Bool.false_ne_true h6).elim
                | exact ⟨_, fun _ _ _ _ _ => pts_nil, sim_yes⟩
            | [cc], h6 =>
              obtain ⟨tt, k1, k2⟩ := B_any ihc c h6
              exact ⟨tt, fun s H A cl fp => pts_one (k1 s H A cl fp), k2⟩
            | _ :: _ :: _, h6 => exact (Bool.false_ne_true h6).elim
          obtain ⟨tt, ht, st⟩ := hc
          exact ⟨_, pe_lc c.calm hN q1 hb hg ht he (notSet_ok h4), sim_comp q2 sg st se (tgIn_ok h3)⟩
        · exfalso
          match asy, ha, h with
          | .ofNat 0, ha, _ => exact ha rfl
          | .ofNat (_ + 1), _, h => exact Bool.false_ne_true h
          | .negSucc _, _, h => exact Bool.false_ne_true h
      | [], h => exact (Bool.false_ne_true h).elim
      | ⟨_, _, _, asy⟩ :: _ :: _, h =>
        exfalso
        match asy, h with
        | .ofNat 0, h => exact Bool.false_ne_true h
        | .ofNat (_ + 1), h => exact Bool.false_ne_true h
        | .negSucc _, h => exact Bool.false_ne_true h
    | _ => exact (Bool.false_ne_true h).elim
  | yes =>
    refine ⟨fun C sc W e c h => (Bool.false_ne_true h).elim, fun C sc W e c h => (Bool.false_ne_true h).elim, fun C sc W e c h => (Bool.false_ne_true h).elim, fun C sc W e c h => (Bool.false_ne_true h).elim, fun C sc W e c h => (Bool.false_ne_true h).elim, fun C sc W e c h => (Bool.false_ne_true h).elim, fun C sc W tg e c h => (Bool.false_ne_true h).elim⟩
  | cap a iha =>
    refine ⟨fun C sc W e c h => (Bool.false_ne_true h).elim, fun C sc W e c h => (Bool.false_ne_true h).elim, fun C sc W e c h => (Bool.false_ne_true h).elim, fun C sc W e c h => (Bool.false_ne_true h).elim, fun C sc W e c h => (Bool.false_ne_true h).elim, fun C sc W e c h => (Bool.false_ne_true h).elim, fun C sc W tg e c h => ?_⟩
    obtain ⟨ti, q1, q2⟩ := iha.I C sc W tg e c h
    exact ⟨ti, q1, simI_cap q2⟩
  | rng1 a iha =>
    refine ⟨fun C sc W e c h => (Bool.false_ne_true h).elim, fun C sc W e c h => (Bool.false_ne_true h).elim, fun C sc W e c h => (Bool.false_ne_true h).elim, fun C sc W e c h => (Bool.false_ne_true h).elim, fun C sc W e c h => (Bool.false_ne_true h).elim, fun C sc W e c h => (Bool.false_ne_true h).elim, fun C sc W tg e c h => ?_⟩
    cases e with
    | Call fn args kws pos => cases fn with
      | Name x p =>
        match args, kws, h with
        | [e], [], h =>
          have h : (glB sc x && decide (x = ("range" : Str)) && chkE ck a sc e && plainE e) = true := h
          simp only [Bool.and_eq_true, decide_eq_true_eq] at h
          obtain ⟨⟨⟨h1, h2⟩, h3⟩, h4⟩ := h
          subst h2
          obtain ⟨ta, q1, q2⟩ := iha.E C sc W _ c h3
          exact ⟨_, pi_range1 (c.gl h1) (c.free F (by decide +kernel)) (pa_cons q1 pa_nil (plain_star h4)) (by rw [plain_star h4]; rfl), simI_rng1 q2⟩
        | [], _, h => exact (Bool.false_ne_true h).elim
        | [_], _ :: _, h => exact (Bool.false_ne_true h).elim
        | _ :: _ :: _, _, h => exact (Bool.false_ne_true h).elim
      | _ => exact (Bool.false_ne_true h).elim
    | _ => exact (Bool.false_ne_true h).elim
  | rng2 a b iha ihb =>
    refine ⟨fun C sc W e c h => (Bool.false_ne_true h).elim, fun C sc W e c h => (Bool.false_ne_true h).elim, fun C sc W e c h => (Bool.false_ne_true h).elim, fun C sc W e c h => (Bool.false_ne_true h).elim, fun C sc W e c h => (Bool.false_ne_true h).elim, fun C sc W e c h => (Bool.false_ne_true h).elim, fun C sc W tg e c h => ?_⟩
    cases e with
    | Call fn args kws pos => cases fn with
      | Name x p =>
        match args, kws, h with
        | [e, f], [], h =>
          have h : (glB sc x && decide (x = ("range" : Str)) && chkE ck a sc e && chkE ck b sc f && plainE e && plainE f) = true := h
          simp only [Bool.and_eq_true, decide_eq_true_eq] at h
          obtain ⟨⟨⟨⟨⟨h1, h2⟩, h3⟩, h4⟩, h5⟩, h6⟩ := h
          subst h2
          obtain ⟨ta, q1, q2⟩ := iha.E C sc W _ c h3
          obtain ⟨tb, k1, k2⟩ := ihb.E C sc W _ c h4
          exact ⟨_, pi_range2 (c.gl h1) (c.free F (by decide +kernel)) (pa_cons q1 (pa_cons k1 pa_nil (plain_star h6)) (plain_star h5)) (by rw [plain_star h5, plain_star h6]; rfl) (by rw [plain_star h6]; rfl), simI_rng2 q2 k2⟩
        | [], _, h => exact (Bool.false_ne_true h).elim
        | [_], _, h => exact (Bool.false_ne_true h).elim
        | [_, _], _ :: _, h => exact (Bool.false_ne_true h).elim
        | _ :: _ :: _ :: _, _, h => exact (Bool.false_ne_true h).elim
      | _ => exact (Bool.false_ne_true h).elim
    | _ => exact (Bool.false_ne_true h).elim
  | zip a b iha ihb =>
    refine ⟨fun C sc W e c h => (Bool.false_ne_true h).elim, fun C sc W e c h => (Bool.false_ne_true h).elim, fun C sc W e c h => (Bool.false_ne_true h).elim, fun C sc W e c h => (Bool.false_ne_true h).elim, fun C sc W e c h => (Bool.false_ne_true h).elim, fun C sc W e c h => (Bool.false_ne_true h).elim, fun C sc W tg e c h => ?_⟩
    cases tg with
    | Tuple ts k tp =>
      cases e with
      | Call fn args kws pos => cases fn with
        | Name x p =>
          match args, kws, h with
          | [e, f], [], h =>
            have h : (glB sc x && decide (x = ("zip" : Str)) && chkE ck a sc e && chkE ck b sc f && plainE e && plainE f) = true := h
            simp only [Bool.and_eq_true, decide_eq_true_eq] at h
            obtain ⟨⟨⟨⟨⟨h1, h2⟩, h3⟩, h4⟩, h5⟩, h6⟩ := h
            subst h2
            obtain ⟨ta, q1, q2⟩ := iha.E C sc W _ c h3
            obtain ⟨tb, k1, k2⟩ := ihb.E C sc W _ c h4
            have e1 : PI C (.Tuple ts k tp) (.Call (.Name "zip" p) [e, f] [] pos) (RZ.iZipA g.K (tCons ta (tCons tb tNil))) := by
              rw [← c.K]
              exact RZ.pi_zipA (c.gl h1) (c.free F (by decide +kernel)) (pa_cons q1 (pa_cons k1 pa_nil (plain_star h6)) (plain_star h5)) (plain_star h5) (by rw [plain_star h6]; rfl)
            exact ⟨_, e1, simI_zip q2 k2⟩
          | [], _, h => exact (Bool.false_ne_true h).elim
          | [_], _, h => exact (Bool.false_ne_true h).elim
          | [_, _], _ :: _, h => exact (Bool.false_ne_true h).elim
          | _ :: _ :: _ :: _, _, h => exact (Bool.false_ne_true h).elim
        | _ => exact (Bool.false_ne_true h).elim
      | _ => exact (Bool.false_ne_true h).elim
    | _ => exact (Bool.false_ne_true h).elim
  | enum a iha =>
    refine ⟨fun C sc W e c h => (Bool.false_ne_true h).elim, fun C sc W e c h => (Bool.false_ne_true h).elim, fun C sc W e c h => (Bool.false_ne_true h).elim, fun C sc W e c h => (Bool.false_ne_true h).elim, fun C sc W e c h => (Bool.false_ne_true h).elim, fun C sc W e c h => (Bool.false_ne_true h).elim, fun C sc W tg e c h => ?_⟩
    cases tg with
    | Tuple ts k tp =>
      cases e with
      | Call fn args kws pos => cases fn with
        | Name x p =>
          match args, kws, h with
          | [e], [], h =>
            have h : (glB sc x && decide (x = ("enumerate" : Str)) && chkE ck a sc e && plainE e) = true := h
            simp only [Bool.and_eq_true, decide_eq_true_eq] at h
            obtain ⟨⟨⟨h1, h2⟩, h3⟩, h4⟩ := h
            subst h2
            obtain ⟨ta, q1, q2⟩ := iha.E C sc W _ c h3
            have e1 : PI C (.Tuple ts k tp) (.Call (.Name "enumerate" p) [e] [] pos) (iEnum g.K (tCons ta tNil)) := by
              rw [← c.K]
              exact pi_enum (c.gl h1) (c.free F (by decide +kernel)) (pa_cons q1 pa_nil (plain_star h4)) (by rw [plain_star h4]; rfl)
            exact ⟨_, e1, simI_enum q2⟩
          | [], _, h => exact (Bool.false_ne_true h).elim
          | [_], _ :: _, h => exact (Bool.false_ne_true h).elim
          | _ :: _ :: _, _, h => exact (Bool.false_ne_true h).elim
        | _ => exact (Bool.false_ne_true h).elim
      | _ => exact (Bool.false_ne_true h).elim
    | _ => exact (Bool.false_ne_true h).elim
end
end PV
end
section
set_option maxHeartbeats 8000000
/-! PvS7: statements. -/
namespace PV
open PySem PySem.Spec PyProof.Rows L2
section
variable {g : G} {ck : Ck} {n : Nat} {call : Nat → List D → T D} {wh : Nat}
/-- within a def that was entered at Z0, H0 -/
structure SCfg (g : G) (Z0 H0 : Hp) (r : Env) (Z : Hp) (σ : L2.St) (H : Hp) : Prop where
  cfg : Cfg g r Z σ H
  stp : Step g Z0 H0 Z H
  own0 : ∀ (i : Nat) (xs : List D) (a : Addr), r[i]? = some (.own xs) → σ[i]? = some (some (.ref a)) → H0 a = none
  dist : ∀ (i j : Nat) (xs ys : List D) (a : Addr), i ≠ j → r[i]? = some (.own xs) → r[j]? = some (.own ys) → σ[i]? = some (some (.ref a)) → σ[j]? = some (some (.ref a)) → False
def PostF (g : G) (Z0 H0 Zl : Hp) (Dn : Ends) (m : Nat) : Fl → Prop
  | .nx r => ∀ Z σ H, SCfg g Z0 H0 r Z σ H → g.bud H = m → Sub Zl Z → Dn.nx σ H
  | .rt d => Post g Z0 H0 Dn.rt m d
  | .bk r => ∀ Z σ H, SCfg g Z0 H0 r Z σ H → g.bud H = m → Sub Zl Z → Dn.bk σ H
  | .ct r => ∀ Z σ H, SCfg g Z0 H0 r Z σ H → g.bud H = m → Sub Zl Z → Dn.ct σ H
def SimS (g : G) (W : Nat → Hp → Prop) (Z0 H0 : Hp) (t : TS) (f : Env → T Fl) : Prop := ∀ (r : Env) (Z : Hp) (σ : L2.St) (H : Hp) (Dn : Ends), SCfg g Z0 H0 r Z σ H → (f r).All (PostF g Z0 H0 Z Dn) (PostE g Z0 H0 W) (g.bud H) → t Dn σ H
theorem PostF.shift {Z0 H0 Z Z1 : Hp} {Dn : Ends} {f : Fl} {m : Nat} (s : Sub Z Z1) (h : PostF g Z0 H0 Z Dn m f) : PostF g Z0 H0 Z1 Dn m f := by
  cases f with
  | nx r => exact fun Z' σ H c e q => h Z' σ H c e fun a o e => q a o (s a o e)
  | rt d => exact h
  | bk r => exact fun Z' σ H c e q => h Z' σ H c e fun a o e => q a o (s a o e)
  | ct r => exact fun Z' σ H c e q => h Z' σ H c e fun a o e => q a o (s a o e)
theorem SCfg.step {Z0 H0 : Hp} {r : Env} {Z H Z' H' : Hp} {σ : L2.St} (c : SCfg g Z0 H0 r Z σ H) (s : Step g Z H Z' H') : SCfg g Z0 H0 r Z' σ H' := ⟨c.cfg.step s, c.stp.trans s, c.own0, c.dist⟩
theorem SCfg.sub {Z0 H0 : Hp} {r r2 : Env} {Z H : Hp} {σ σ2 : L2.St} (c : SCfg g Z0 H0 r Z σ H) (c2 : Cfg g r2 Z σ2 H) (os : OwnSub r σ r2 σ2) : SCfg g Z0 H0 r2 Z σ2 H := by
  refine ⟨c2, c.stp, fun i xs a h1 h2 => ?_, fun i j xs ys a hij h1 h2 h3 h4 => ?_⟩
  · obtain ⟨k1, k2⟩ := os i xs h1
    exact c.own0 i xs a k1 (by rw [← k2]; exact h2)
  · obtain ⟨k1, k2⟩ := os i xs h1
    obtain ⟨k3, k4⟩ := os j ys h2
    exact c.dist i j xs ys a hij k1 k3 (by rw [← k2]; exact h3) (by rw [← k4]; exact h4)
theorem SCfg.setVal {Z0 H0 : Hp} {r : Env} {Z H : Hp} {σ : L2.St} {i : Nat} {d : D} {v : V} (c : SCfg g Z0 H0 r Z σ H) (h : Rep g Z v d) : SCfg g Z0 H0 (r.set i (.val d)) Z (σ.set i (some v)) H :=
  c.sub (c.cfg.set ⟨v, rfl, h⟩) ownSub_set
theorem get_own {Z H : Hp} {r : Env} {σ : L2.St} (c : Cfg g r Z σ H) {i : Nat} {xs : List D} (h : r[i]? = some (.own xs)) : ∃ a vs, σ[i]? = some (some (.ref a)) ∧ H a = some (.lst vs) ∧ vs.length ≤ sizeLine ∧ ¬ g.F a ∧ Z a = none ∧ Reps g Z vs xs := by
  obtain ⟨o, h1, a, vs, rfl, h2⟩ := c.slot i _ h
  exact ⟨a, vs, h1, h2⟩
/-- a list of this def's becomes one's own -/
theorem SCfg.putOwn {Z0 H0 : Hp} {r : Env} {Z1 H1 : Hp} {σ : L2.St} {i : Nat} {xs : List D} {a : Addr} {vs : List V} (c1 : SCfg g Z0 H0 r Z1 σ H1) (h1 : H1 a = some (.lst vs)) (h2 : vs.length ≤ sizeLine) (h3 : ¬ g.F a) (h4 : Z1 a = none) (h5 : H0 a = none)
    (h6 : Reps g Z1 vs xs) (hne : ∀ (k : Nat) (ys : List D) (b : Addr), r[k]? = some (.own ys) → σ[k]? = some (some (.ref b)) → b ≠ a) : SCfg g Z0 H0 (r.set i (.own xs)) Z1 (σ.set i (some (.ref a))) H1 := by
  have spl : ∀ (k : Nat) (ys : List D) (b : Addr), (r.set i (Sl.own xs))[k]? = some (.own ys) → (σ.set i (some (V.ref a)))[k]? = some (some (.ref b)) → (k = i ∧ b = a) ∨ (k ≠ i ∧ r[k]? = some (.own ys) ∧ σ[k]? = some (some (.ref b))) := fun k ys b e1 e2 => by
    rw [List.getElem?_set] at e1 e2
    by_cases e : i = k
    · rw [if_pos e] at e1 e2
      left
      refine ⟨e.symm, ?_⟩
      split at e2
      · cases e2; rfl
      · cases e2
    · rw [if_neg e] at e1 e2
      exact .inr ⟨fun z => e z.symm, e1, e2⟩
  refine ⟨c1.cfg.set ⟨a, vs, rfl, h1, h2, h3, h4, h6⟩, c1.stp, fun k ys b e1 e2 => ?_, fun j k ys zs b hjk e1 e2 e3 e4 => ?_⟩
  · rcases spl k ys b e1 e2 with ⟨rfl, rfl⟩ | ⟨_, e1, e2⟩
    · exact h5
    · exact c1.own0 k ys b e1 e2
  · rcases spl j ys b e1 e3 with ⟨rfl, rfl⟩ | ⟨n1, e1, e3⟩
    · rcases spl k zs b e2 e4 with ⟨rfl, _⟩ | ⟨n2, e2, e4⟩
      · exact hjk rfl
      · exact hne k zs b e2 e4 rfl
    · rcases spl k zs b e2 e4 with ⟨rfl, rfl⟩ | ⟨n2, e2, e4⟩
      · exact hne j ys b (by assumption) (by assumption) rfl
      · exact c1.dist j k ys zs b hjk e1 e2 e3 e4
theorem SCfg.new0 {Z0 H0 : Hp} {r : Env} {Z H : Hp} {σ : L2.St} {a : Addr} (c : SCfg g Z0 H0 r Z σ H) (h3 : ¬ g.F a) (h5 : H a = none) : H0 a = none := by
  rcases none_or (H := H0) (a := a) with e | ⟨u, e⟩
  · exact e
  · rw [c.stp.h _ _ e h3] at h5; cases h5
theorem SCfg.newNe {Z0 H0 : Hp} {r : Env} {Z H : Hp} {σ : L2.St} {a : Addr} (c : SCfg g Z0 H0 r Z σ H) (h5 : H a = none) : ∀ (k : Nat) (ys : List D) (b : Addr), r[k]? = some (.own ys) → σ[k]? = some (some (.ref b)) → b ≠ a := fun k ys b e1 e2 z => by
  obtain ⟨b', vs', q1, q2, _⟩ := get_own c.cfg e1
  rw [e2] at q1; cases q1
  rw [z, h5] at q2; cases q2
theorem SCfg.setOwn {Z0 H0 : Hp} {r : Env} {Z H Z1 H1 : Hp} {σ : L2.St} {i : Nat} {xs : List D} {a : Addr} {vs : List V} (c : SCfg g Z0 H0 r Z σ H) (s : Step g Z H Z1 H1) (h1 : H1 a = some (.lst vs)) (h2 : vs.length ≤ sizeLine) (h3 : ¬ g.F a) (h4 : Z1 a = none) (h5 : H a = none)
    (h6 : Reps g Z1 vs xs) : SCfg g Z0 H0 (r.set i (.own xs)) Z1 (σ.set i (some (.ref a))) H1 :=
  (c.step s).putOwn h1 h2 h3 h4 (c.new0 h3 h5) h6 (c.newNe h5)
/-- several values at once -/
def setσ : List Nat → List V → L2.St → L2.St
  | i :: is, v :: vs, σ => setσ is vs (σ.set i (some v))
  | _, _, σ => σ
theorem SCfg.setMany {Z0 H0 H : Hp} {Z1 H1 : Hp} (h0 : ∀ a, ¬ g.F a → H a = none → H0 a = none) : ∀ (is : List Nat) (vs : List V) (ds : List D) (r r2 : Env) (σ : L2.St), SCfg g Z0 H0 r Z1 σ H1 → RepRs g H Z1 H1 vs ds → NewD vs ds →
    (∀ (m k : Nat) (xs ys : List D) (b : Addr), ds[m]? = some (.new xs) → vs[m]? = some (.ref b) → r[k]? = some (.own ys) → σ[k]? ≠ some (some (.ref b))) → parT is ds r = some r2 → SCfg g Z0 H0 r2 Z1 (setσ is vs σ) H1
  | [], _, [], r, _, σ, c, .nil, _, _, e => by
    cases e
    exact c
  | _ :: _, _, [], r, _, σ, c, .nil, _, _, e => by cases e
  | [], _, d :: ds, r, _, σ, c, .cons _ _, _, _, e => by cases e
  | i :: is, _, d :: ds, r, r2, σ, c, .cons (v := v) (vs := vs) rv rs, nd, hn, e => by
    unfold parT at e
    have nx : ∀ (s : Sl), (∀ (m k : Nat) (xs ys : List D) (b : Addr), ds[m]? = some (.new xs) → vs[m]? = some (.ref b) → (r.set i s)[k]? = some (.own ys) → (σ.set i (some v))[k]? ≠ some (some (.ref b))) → SCfg g Z0 H0 (r.set i s) Z1 (σ.set i (some v)) H1 → parT is ds (r.set i s) = some r2 → SCfg g Z0 H0 r2 Z1 (setσ (i :: is) (v :: vs) σ) H1 := fun s h c2 e2 =>
      SCfg.setMany h0 is vs ds _ r2 _ c2 rs nd.2 h e2
    have old : ∀ (dd : D), (∀ (m k : Nat) (xs ys : List D) (b : Addr), ds[m]? = some (.new xs) → vs[m]? = some (.ref b) → (r.set i (.val dd))[k]? = some (.own ys) → (σ.set i (some v))[k]? ≠ some (some (.ref b))) := fun dd m k xs ys b e1 e2 e3 e4 => by
      obtain ⟨k1, k2⟩ := ownSub_set (σ := σ) (o := some v) k ys e3
      exact hn (m + 1) k xs ys b (by simpa using e1) (by simpa using e2) k1 (by rw [← k2]; exact e4)
    cases d <;> first
      | (cases e; done)
      | exact nx _ (old _) (c.setVal rv) e
      | skip
    rename_i xs0
    obtain ⟨p, ws, rfl, h1, h2, h3, h4, h5, h6⟩ := rv
    refine nx (.own xs0) (fun m k xs ys b e1 e2 e3 e4 => ?_) (c.putOwn h1 h2 h3 h4 (h0 p h3 h5) h6 fun k ys b e1 e2 z => ?_) e
    · rw [List.getElem?_set] at e3 e4
      by_cases hk : i = k
      · rw [if_pos hk] at e3 e4
        split at e4
        · cases e4
          exact nd.1 xs0 rfl m xs e1 e2
        · cases e4
      · rw [if_neg hk] at e3 e4
        exact hn (m + 1) k xs ys b (by simpa using e1) (by simpa using e2) e3 e4
    · subst z
      exact hn 0 k xs0 ys b rfl rfl e1 e2
/-- one's own list changes -/
theorem SCfg.mut {Z0 H0 : Hp} {r : Env} {Z H : Hp} {σ : L2.St} {i : Nat} {xs ys : List D} {a : Addr} {ws : List V} (c : SCfg g Z0 H0 r Z σ H) (e : r[i]? = some (.own xs)) (ea : σ[i]? = some (some (.ref a))) (hl : ws.length ≤ sizeLine) (h : Reps g Z ws ys) :
    SCfg g Z0 H0 (r.set i (.own ys)) Z σ (upd H a (.lst ws)) := by
  obtain ⟨a', vs, q1, q2, q3, q4, q5, q6⟩ := get_own c.cfg e
  rw [ea] at q1; cases q1
  have hZ : Sub Z (upd H a (.lst ws)) := fun b o eb => by rw [upd_ne (ne_of_none eb q5)]; exact c.cfg.pre.zh b o eb
  have gd : g.good (upd H a (.lst ws)) := good_upd c.cfg.pre q4
  have h0 : H0 a = none := c.own0 i xs a e ea
  have st : Step g Z0 H0 Z (upd H a (.lst ws)) := ⟨c.stp.z, hZ, fun b o eb f => by rw [upd_ne (ne_of_none eb h0)]; exact c.stp.h b o eb f, c.stp.new, c.stp.zf, gd⟩
  have spl : ∀ (k : Nat) (zs : List D), (r.set i (Sl.own ys))[k]? = some (.own zs) → k = i ∨ (k ≠ i ∧ r[k]? = some (.own zs)) := fun k zs e1 => by
    rw [List.getElem?_set] at e1
    by_cases e : i = k
    · exact .inl e.symm
    · rw [if_neg e] at e1
      exact .inr ⟨fun z => e z.symm, e1⟩
  refine ⟨⟨⟨hZ, c.cfg.pre.zf, gd⟩, by rw [List.length_set]; exact c.cfg.len, fun k s ek => ?_⟩, st, fun k zs b e1 e2 => ?_, fun j k ys' zs b hjk e1 e2 e3 e4 => ?_⟩
  · rw [List.getElem?_set] at ek
    by_cases hk : i = k
    · subst hk
      rw [if_pos rfl] at ek
      split at ek
      · cases ek
        exact ⟨_, ea, a, ws, rfl, upd_same, hl, q4, q5, h⟩
      · cases ek
    · rw [if_neg hk] at ek
      obtain ⟨o, k1, k2⟩ := c.cfg.slot k s ek
      refine ⟨o, k1, ?_⟩
      cases s with
      | un => trivial
      | val d => exact k2
      | own zs =>
        obtain ⟨b, vs', rfl, m1, m2⟩ := k2
        have hba : b ≠ a := fun z => c.dist i k xs zs a hk e ek ea (by rw [← z]; exact k1)
        exact ⟨b, vs', rfl, by rw [upd_ne hba]; exact m1, m2⟩
  · rcases spl k zs e1 with rfl | ⟨_, e1⟩
    · rw [ea] at e2; cases e2
      exact h0
    · exact c.own0 k zs b e1 e2
  · rcases spl j ys' e1 with rfl | ⟨n1, e1⟩
    · rcases spl k zs e2 with rfl | ⟨n2, e2⟩
      · exact hjk rfl
      · exact c.dist j k xs zs b hjk e e2 e3 e4
    · rcases spl k zs e2 with rfl | ⟨n2, e2⟩
      · exact c.dist j k ys' xs b hjk (by assumption) e e3 e4
      · exact c.dist j k ys' zs b hjk e1 e2 e3 e4
/-- one's own list becomes everybody's -/
theorem SCfg.frz {Z0 H0 : Hp} {r : Env} {Z H : Hp} {σ : L2.St} {i : Nat} {xs : List D} (c : SCfg g Z0 H0 r Z σ H) (e : r[i]? = some (.own xs)) : ∃ Z', SCfg g Z0 H0 (r.set i (.val (.lst xs))) Z' σ H ∧ Sub Z Z' := by
  obtain ⟨a, vs, q1, q2, q3, q4, q5, q6⟩ := get_own c.cfg e
  have h0 : H0 a = none := c.own0 i xs a e q1
  have st := c.stp.freeze h0 q2 q5 q4
  have sz : Sub Z (upd Z a (.lst vs)) := sub_new q5
  have spl : ∀ (k : Nat) (zs : List D), (r.set i (Sl.val (.lst xs)))[k]? = some (.own zs) → k ≠ i ∧ r[k]? = some (.own zs) := fun k zs e1 => by
    rw [List.getElem?_set] at e1
    by_cases e : i = k
    · rw [if_pos e] at e1
      split at e1 <;> cases e1
    · rw [if_neg e] at e1
      exact ⟨fun z => e z.symm, e1⟩
  refine ⟨upd Z a (.lst vs), ⟨⟨st.pre, by rw [List.length_set]; exact c.cfg.len, fun k s ek => ?_⟩, st, fun k zs b e1 e2 => c.own0 k zs b (spl k zs e1).2 e2, fun j k ys zs b hjk e1 e2 e3 e4 => c.dist j k ys zs b hjk (spl j ys e1).2 (spl k zs e2).2 e3 e4⟩, sz⟩
  rw [List.getElem?_set] at ek
  by_cases hk : i = k
  · subst hk
    rw [if_pos rfl] at ek
    split at ek
    · cases ek
      exact ⟨_, q1, _, rfl, .lst upd_same q3 (q6.mono sz)⟩
    · cases ek
  · rw [if_neg hk] at ek
    obtain ⟨o, k1, k2⟩ := c.cfg.slot k s ek
    refine ⟨o, k1, ?_⟩
    cases s with
    | un => trivial
    | val d => obtain ⟨v, m1, m2⟩ := k2; exact ⟨v, m1, m2.mono sz⟩
    | own zs =>
      obtain ⟨b, vs', rfl, m1, m2, m3, m4, m5⟩ := k2
      have hba : b ≠ a := fun z => c.dist i k xs zs a hk e ek q1 (by rw [← z]; exact k1)
      exact ⟨b, vs', rfl, m1, m2, m3, by rw [upd_ne hba]; exact m4, m5.mono sz⟩

section
variable {W : Nat → Hp → Prop} {Z0 H0 : Hp} {te : TE} {e : Env → T D} {tt : TT} {b : Env → T Bool} {t1 t2 : TS} {f1 f2 : Env → T Fl}
/-- an expression ahead of what a statement does -/
theorem SimS.ofE {k : D → Env → T Fl} {kk : Ends → L2.St → V → Hp → Prop} (h : SimE g W te e) {t : TS} (ht : ∀ Dn σ H, te σ H (fun x H1 => kk Dn σ x H1) → t Dn σ H)
    (q : ∀ (r : Env) (Z : Hp) (σ : L2.St) (H : Hp) (Dn : Ends), SCfg g Z0 H0 r Z σ H → ∀ d v Z' H', Step g Z H Z' H' → RepR g H Z' H' v d → (k d r).All (PostF g Z0 H0 Z Dn) (PostE g Z0 H0 W) (g.bud H') → kk Dn σ v H') :
    SimS g W Z0 H0 t fun r => e r >>= fun d => k d r := by
  intro r Z σ H Dn c a
  rw [all_bind] at a
  refine ht Dn σ H (h r Z σ H _ c.cfg (All.mono a (fun d h1 v Z' H' s e rr => by subst e; exact q r Z σ H Dn c d v Z' H' s rr h1) fun _ x => x.shift c.stp))
theorem simS_asg {i : Nat} (h : SimE g W te e) : SimS g W Z0 H0 (tAsg te (gName i)) fun r => e r >>= fun d => slOf d >>= fun s => .ret (.nx (r.set i s)) := by
  refine SimS.ofE (kk := fun Dn σ x H1 => Dn.nx (σ.set i (some x)) H1) h (fun _ _ _ h => h) fun r Z σ H Dn c d v Z' H' s rr a => ?_
  have c1 := c.step s
  cases d <;> first
    | exact a.elim
    | exact a Z' _ H' (c1.setVal rr) rfl s.z
    | (obtain ⟨p, vs, rfl, h1, h2, h3, h4, h5, h6⟩ := rr; exact a Z' _ H' (c.setOwn s h1 h2 h3 h4 h5 h6) rfl s.z)
theorem simS_asgF {i : Nat} (h : SimE g W te e) : SimS g W Z0 H0 (tAsg te (gName i)) fun r => e r >>= fun d => fz d >>= fun d => .ret (.nx (r.set i (.val d))) := by
  refine SimS.ofE (kk := fun Dn σ x H1 => Dn.nx (σ.set i (some x)) H1) h (fun _ _ _ h => h) fun r Z σ H Dn c d v Z' H' s rr a => ?_
  rw [all_bind] at a
  obtain ⟨d', Z2, a2, s2, sz, r2⟩ := fz_ok s rr a
  exact a2 Z2 _ H' ((c.step s2).setVal r2) rfl s2.z
theorem simS_asgT {is : List Nat} {gt : TG} (hg : SimG g (.tp is) gt) (h : SimE g W te e) : SimS g W Z0 H0 (tAsg te gt) fun r => e r >>= fun d => match d with
    | .tup ds => ofO (setAll is ds r) >>= fun r2 => .ret (.nx r2)
    | _ => .bad := by
  refine SimS.ofE (kk := fun Dn σ x H1 => gt x σ H1 Dn.nx) h (fun _ _ _ h => h) fun r Z σ H Dn c d v Z' H' s rr a => ?_
  cases d <;> first
    | exact a.elim
    | skip
  rename_i ds
  rw [all_bind] at a
  obtain ⟨r2, e2, a2⟩ := ofO_ok a
  have c1 := c.step s
  have eb : bindTg (.tp is) (.tup ds) r = .ret r2 := by
    show ofO (setAll is ds r) = _
    rw [e2]; rfl
  exact hg v _ r r2 Z' σ H' _ c1.cfg rr eb fun σ2 c2 _ os => a2 Z' σ2 H' (c1.sub c2 os) rfl s.z
theorem simS_expr (h : SimE g W te e) : SimS g W Z0 H0 (tDrop te) fun r => e r >>= fun _ => .ret (.nx r) :=
  SimS.ofE (kk := fun Dn σ _ H1 => Dn.nx σ H1) h (fun _ _ _ h => h) fun r Z σ H Dn c d v Z' H' s rr a => a Z' σ H' (c.step s) rfl s.z
theorem simS_ret (h : SimE g W te e) : SimS g W Z0 H0 (tRet te) fun r => e r >>= fun d => match d with
    | .bor _ => .bad
    | d => .ret (.rt d) := by
  refine SimS.ofE (kk := fun Dn σ x H1 => Dn.rt x H1) h (fun _ _ _ h => h) fun r Z σ H Dn c d v Z' H' s rr a => ?_
  have key : ∀ d', RepR g H Z' H' v d' → Post g Z0 H0 Dn.rt (g.bud H') d' → Dn.rt v H' := fun d' r' q => q v Z' H' (c.stp.trans s) rfl (r'.back c.stp)
  cases d <;> first
    | exact a.elim
    | exact key _ rr a
/-- return x, x one's own list or a value -/
theorem simS_retV {i : Nat} : SimS g W Z0 H0 (tRet (tVar i)) fun r => match r[i]? with
    | some (.own xs) => .ret (.rt (.new xs))
    | some (.val d) => .ret (.rt d)
    | _ => .bad := by
  intro r Z σ H Dn c a
  cases e : r[i]? with
  | none => simp only [e] at a; exact a.elim
  | some sl =>
    simp only [e] at a
    cases sl with
    | un => exact a.elim
    | val d =>
      obtain ⟨o, h1, v, rfl, h2⟩ := c.cfg.slot i _ e
      exact ⟨v, h1, a v Z H c.stp rfl (.of h2)⟩
    | own xs =>
      obtain ⟨p, vs, q1, q2, q3, q4, q5, q6⟩ := get_own c.cfg e
      exact ⟨_, q1, a _ Z H c.stp rfl ⟨p, vs, rfl, q2, q3, q4, q5, c.own0 i xs p e q1, q6⟩⟩
theorem simS_seq (h1 : SimS g W Z0 H0 t1 f1) (h2 : SimS g W Z0 H0 t2 f2) : SimS g W Z0 H0 (tSeq t1 t2) fun r => f1 r >>= fun fl => match fl with
    | .nx r2 => f2 r2
    | f => .ret f := by
  intro r Z σ H Dn c a
  rw [all_bind] at a
  refine h1 r Z σ H _ c (All.mono a (fun fl q => ?_) fun _ x => x)
  cases fl with
  | nx r2 => exact fun Z' σ' H' c' e sz => by subst e; exact h2 r2 Z' σ' H' Dn c' (All.mono q (fun _ x => x.shift sz) fun _ x => x)
  | rt d => exact q
  | bk r2 => exact q
  | ct r2 => exact q
theorem simS_if (hb : SimB g W tt b) (h1 : SimS g W Z0 H0 t1 f1) (h2 : SimS g W Z0 H0 t2 f2) : SimS g W Z0 H0 (tIfS tt t1 t2) fun r => b r >>= fun k => if k = true then f1 r else f2 r := by
  intro r Z σ H Dn c a
  rw [all_bind] at a
  refine hb r Z σ H _ c.cfg (All.mono a (fun k q Z' H' s e => ?_) fun _ x => x.shift c.stp)
  subst e
  cases k with
  | true =>
    rw [if_pos rfl] at q
    show (if true = true then _ else _)
    rw [if_pos rfl]
    exact h1 r Z' σ H' Dn (c.step s) (All.mono q (fun _ x => x.shift s.z) fun _ x => x)
  | false =>
    rw [if_neg Bool.false_ne_true] at q
    show (if false = true then _ else _)
    rw [if_neg Bool.false_ne_true]
    exact h2 r Z' σ H' Dn (c.step s) (All.mono q (fun _ x => x.shift s.z) fun _ x => x)
theorem simS_for {wi : TI} {ei : Env → T (List D)} {tg : Tg} {gt : TG} (hi : SimI g W wi ei) (hg : SimG g tg gt) (hb : SimS g W Z0 H0 t1 f1) : SimS g W Z0 H0 (tFor wi gt t1) fun r => ei r >>= fun ds => forL (bindTg tg) f1 ds r := by
  intro r Z σ H Dn c a
  rw [all_bind] at a
  refine hi r Z σ H _ c.cfg (All.mono a (fun ds q J Z1 H1 s1 e1 wd _ => ?_) fun _ x => x.shift c.stp)
  subst e1
  obtain ⟨Gd, Y, wk, hGd, hY⟩ := wd
  refine for_it wk (fun i σ2 H2 => ∃ r2 Z2, SCfg g Z0 H0 r2 Z2 σ2 H2 ∧ Sub Z1 Z2 ∧ (forL (bindTg tg) f1 (ds.drop i) r2).All (PostF g Z0 H0 Z2 Dn) (PostE g Z0 H0 W) (g.bud H2)) ?_ ?_ ?_ ?_
  · refine ⟨r, Z1, c.step s1, fun _ _ e => e, ?_⟩
    rw [List.drop_zero]
    exact All.mono q (fun _ x => x.shift s1.z) fun _ x => x
  · rintro i σ2 H2 _ ⟨r2, Z2, c2, sz, _⟩
    exact hGd H2 fun a o e => c2.cfg.pre.zh a o (sz a o e)
  · rintro i x σ2 H2 H3 hlt ⟨r2, Z2, c2, sz, a2⟩ y
    obtain ⟨Z3, d, ed, s3, eb3, rd⟩ := hY i Z2 H2 x H3 hlt sz c2.cfg.pre y
    rw [← eb3] at a2
    have hdrop : ds.drop i = d :: ds.drop (i + 1) := by
      obtain ⟨hl, e⟩ := List.getElem?_eq_some_iff.mp ed
      rw [List.drop_eq_getElem_cons hl, e]
    rw [hdrop] at a2
    unfold forL at a2
    have c3 := c2.step s3
    cases eb : bindTg tg d r2 with
    | err _ => rw [eb] at a2; cases tg with
      | nm i => cases eb
      | tp is =>
        cases d <;> first
          | (cases eb; done)
          | (rename_i xs; have eb : ofO (setAll is xs r2) = _ := eb; cases q : setAll is xs r2 <;> rw [q] at eb <;> cases eb)
    | bad => rw [eb] at a2; exact a2.elim
    | draw n k => cases tg with
      | nm i => cases eb
      | tp is =>
        cases d <;> first
          | (cases eb; done)
          | (rename_i xs; have eb : ofO (setAll is xs r2) = _ := eb; cases q : setAll is xs r2 <;> rw [q] at eb <;> cases eb)
    | ret r3 =>
      rw [eb, ret_bind, all_bind] at a2
      refine hg x d r2 r3 Z3 σ2 H3 _ c3.cfg rd eb fun σ3 c4 _ os => ?_
      have c5 := c3.sub c4 os
      refine hb r3 Z3 σ3 H3 _ c5 (All.mono a2 (fun fl q => ?_) fun _ x => x)
      have sub3 : Sub Z1 Z3 := fun a o e => s3.z a o (sz a o e)
      cases fl with
      | nx r4 => exact fun Z' σ' H' c' e' sz' => by subst e'; exact ⟨r4, Z', c', fun a o e => sz' a o (sub3 a o e), All.mono q (fun _ x => x.shift fun a o e => sz' a o (s3.z a o e)) fun _ x => x⟩
      | ct r4 => exact fun Z' σ' H' c' e' sz' => by subst e'; exact ⟨r4, Z', c', fun a o e => sz' a o (sub3 a o e), All.mono q (fun _ x => x.shift fun a o e => sz' a o (s3.z a o e)) fun _ x => x⟩
      | bk r4 => exact fun Z' σ' H' c' e' sz' => q Z' σ' H' c' e' fun a o e => sz' a o (s3.z a o e)
      | rt v => exact q
  · rintro σ2 H2 ⟨r2, Z2, c2, sz, a2⟩
    rw [List.drop_length] at a2
    exact a2 Z2 σ2 H2 c2 rfl fun _ _ e => e
theorem simS_while (hb : SimB g W tt b) (h1 : SimS g W Z0 H0 t1 f1) : SimS g W Z0 H0 (tWhile tt t1) fun r => whileL b f1 wh r := by
  intro r Z σ H Dn c a
  refine ⟨fun m σ2 H2 => ∃ r2 Z2, SCfg g Z0 H0 r2 Z2 σ2 H2 ∧ (whileL b f1 m r2).All (PostF g Z0 H0 Z2 Dn) (PostE g Z0 H0 W) (g.bud H2), ⟨wh, r, Z, c, a⟩, ?_⟩
  rintro m σ2 H2 ⟨r2, Z2, c2, a2⟩
  cases m with
  | zero => exact a2.elim
  | succ m =>
    unfold whileL at a2
    rw [all_bind] at a2
    refine hb r2 Z2 σ2 H2 _ c2.cfg (All.mono a2 (fun k q Z' H' s e => ?_) fun _ x => x.shift c2.stp)
    subst e
    have c3 := c2.step s
    cases k with
    | true =>
      rw [if_pos rfl, all_bind] at q
      show (if true = true then _ else _)
      rw [if_pos rfl]
      refine ⟨fun σ' H' => ∃ r2 Z2, SCfg g Z0 H0 r2 Z2 σ' H' ∧ (whileL b f1 m r2).All (PostF g Z0 H0 Z2 Dn) (PostE g Z0 H0 W) (g.bud H'), fun σ' H' w => ⟨m, Nat.lt_succ_self m, w⟩, ?_⟩
      refine h1 r2 Z' σ2 H' _ c3 (All.mono q (fun fl q => ?_) fun _ x => x)
      cases fl with
      | nx r4 => exact fun Z'' σ' H'' c' e' sz' => by subst e'; exact ⟨r4, Z'', c', All.mono q (fun _ x => x.shift fun a o e => sz' a o (s.z a o e)) fun _ x => x⟩
      | ct r4 => exact fun Z'' σ' H'' c' e' sz' => by subst e'; exact ⟨r4, Z'', c', All.mono q (fun _ x => x.shift fun a o e => sz' a o (s.z a o e)) fun _ x => x⟩
      | bk r4 => exact fun Z'' σ' H'' c' e' sz' => q Z'' σ' H'' c' e' fun a o e => sz' a o (s.z a o e)
      | rt v => exact q
    | false =>
      rw [if_neg Bool.false_ne_true] at q
      show (if false = true then _ else _)
      rw [if_neg Bool.false_ne_true]
      exact q Z' σ2 H' c3 rfl s.z
theorem RepRs.length {H Z' H' : Hp} : ∀ {vs : List V} {ds : List D}, RepRs g H Z' H' vs ds → vs.length = ds.length
  | _, _, .nil => rfl
  | _, _, .cons _ t => congrArg Nat.succ (RepRs.length t)
theorem parT_len : ∀ {is : List Nat} {ds : List D} {r r2 : Env}, parT is ds r = some r2 → ds.length = is.length
  | [], [], _, _, _ => rfl
  | [], _ :: _, _, _, e => by cases e
  | _ :: _, [], _, _, e => by cases e
  | i :: is, d :: ds, r, r2, e => by
    unfold parT at e
    split at e
    · exact congrArg Nat.succ (parT_len e)
    · cases e
theorem simS_par {is : List Nat} {ta : TA} {ea : Env → T (List D)} {t : TS} {K : Ends → L2.St → List V → Hp → Prop} (h : SimR g W ta ea) (ht : ∀ (Dn : Ends) σ H, ta σ H (K Dn σ) → t Dn σ H)
    (hK : ∀ (Dn : Ends) (σ : L2.St) (vs : List V) (H1 : Hp), vs.length = is.length → Dn.nx (setσ is vs σ) H1 → K Dn σ vs H1) :
    SimS g W Z0 H0 t fun r => ea r >>= fun ds => ofO (parT is ds r) >>= fun r2 => .ret (.nx r2) := by
  intro r Z σ H Dn c a
  rw [all_bind] at a
  refine ht Dn σ H (h r Z σ H _ c.cfg (All.mono a (fun ds a1 vs Z' H' s e' rr nd => ?_) fun _ x => x.shift c.stp))
  subst e'
  rw [all_bind] at a1
  obtain ⟨r2, e, a2⟩ := ofO_ok a1
  refine hK Dn σ vs H' (rr.length.trans (parT_len e)) ?_
  refine a2 Z' _ H' (SCfg.setMany (fun a nf hn => c.new0 nf hn) is vs ds r r2 σ (c.step s) rr nd (fun m k xs ys b e1 e2 e3 e4 => ?_) e) rfl s.z
  obtain ⟨v, q1, q2⟩ := rr.get e1
  rw [e2] at q1; cases q1
  obtain ⟨p, ws, ep, _, _, _, _, h5, _⟩ := q2
  cases ep
  exact c.newNe h5 k ys b e3 e4 rfl
/-- x.append(e) -/
theorem simS_app {i : Nat} (h : SimE g W te e) : SimS g W Z0 H0 (tDrop (tBM g.K "list" rAppend (tVar i) (tCons te tNil))) fun r => match r[i]? with
    | some (.own xs) => if xs.length < lim then e r >>= fun d => fz d >>= fun d => .ret (.nx (r.set i (.own (xs ++ [d])))) else .bad
    | _ => .bad := by
  intro r Z σ H Dn c a
  cases er : r[i]? with
  | none => simp only [er] at a; exact a.elim
  | some sl =>
    simp only [er] at a
    cases sl with
    | un => exact a.elim
    | val d => exact a.elim
    | own xs =>
      simp only at a
      split at a
      · rename_i hl
        obtain ⟨p, vs, q1, q2, q3, q4, q5, q6⟩ := get_own c.cfg er
        refine ⟨_, q1, .inl ⟨rfl, vs, .of q2⟩, ?_⟩
        rw [all_bind] at a
        refine h r Z σ H _ c.cfg (All.mono a (fun d a1 v Z' H' s e' rr => ?_) fun _ x => x.shift c.stp)
        subst e'
        rw [all_bind] at a1
        obtain ⟨d', Z2, a2, s2, sz, r2⟩ := fz_ok s rr a1
        have h' : H' p = some (.lst vs) := s.h _ _ q2 q4
        have hz : vs.length < sizeLine := by rw [q6.length, ← limLine]; exact hl
        refine ⟨p, vs, v, rfl, rfl, h', hz, ?_⟩
        exact a2 Z2 σ _ ((c.step s2).mut er q1 (by rw [List.length_append]; exact hz) ((q6.mono s2.z).append (.cons r2 .nil))) (bud_upd s.pre q4) s2.z
      · exact a.elim
/-- x[i] = e -/
theorem simS_sset {i : Nat} {ti : TE} {ei : Env → T D} (h : SimE g W te e) (hi : SimE g W ti ei) : SimS g W Z0 H0 (tAsg te (gSub (tVar i) ti rSetL)) fun r => match r[i]? with
    | some (.own xs) => e r >>= fun d => fz d >>= fun d => ei r >>= fun k => match k with
      | .int k => match L2.ixN xs.length k with
        | some j => .ret (.nx (r.set i (.own (xs.set j d))))
        | none => .bad
      | _ => .bad
    | _ => .bad := by
  intro r Z σ H Dn c a
  cases er : r[i]? with
  | none => simp only [er] at a; exact a.elim
  | some sl =>
    simp only [er] at a
    cases sl with
    | un => exact a.elim
    | val d => exact a.elim
    | own xs =>
      simp only at a
      rw [all_bind] at a
      refine h r Z σ H _ c.cfg (All.mono a (fun d a1 v Z' H' s e' rr => ?_) fun _ x => x.shift c.stp)
      subst e'
      rw [all_bind] at a1
      obtain ⟨d', Z2, a2, s2, sz, r2⟩ := fz_ok s rr a1
      have c2 := c.step s2
      obtain ⟨p, vs, q1, q2, q3, q4, q5, q6⟩ := get_own c2.cfg er
      refine ⟨_, q1, ?_⟩
      rw [all_bind] at a2
      refine hi r Z2 σ H' _ c2.cfg (All.mono a2 (fun k a3 vk Z3 H3 s3 e3 r3 => ?_) fun _ x => x.shift c2.stp)
      subst e3
      cases k <;> first
        | exact a3.elim
        | skip
      rename_i kk
      cases r3
      simp only at a3
      cases ej : L2.ixN xs.length kk with
      | none => simp only [ej] at a3; exact a3.elim
      | some j =>
        simp only [ej] at a3
        have h' : H3 p = some (.lst vs) := s3.h _ _ q2 q4
        refine ⟨p, vs, kk, j, rfl, rfl, h', by rw [q6.length]; exact ej, ?_⟩
        exact a3 Z3 σ _ ((c2.step s3).mut er q1 (by rw [List.length_set]; exact q3) ((q6.mono s3.z).set (r2.mono s3.z) j)) (bud_upd s3.pre q4) fun a o e => s3.z a o (s2.z a o e)
theorem simS_raise {cc : Nat} (h0 : True) : SimS g W Z0 H0 (fun _ σ H => (fun (cls : Value) (d : Option Addr) (_ : L2.St) (H : Hp) => ∃ c, cls = .ref (g.cad c) ∧ d = none ∧ W c H) (.ref (g.cad cc)) none σ H) fun _ => .err cc := by
  intro r Z σ H Dn c a
  exact ⟨cc, rfl, rfl, a Z H c.stp rfl⟩
theorem simS_frz {i : Nat} {t : TS} {f : Env → T Fl} (h : SimS g W Z0 H0 t f) : SimS g W Z0 H0 t fun r => (match r[i]? with
    | some (.own xs) => .ret (.nx (r.set i (.val (.lst xs))))
    | some (.val _) => .ret (.nx r)
    | _ => .bad : T Fl) >>= fun fl => match fl with
    | .nx r2 => f r2
    | f => .ret f := by
  intro r Z σ H Dn c a
  cases er : r[i]? with
  | none => simp only [er] at a; exact a.elim
  | some sl =>
    simp only [er] at a
    cases sl with
    | un => exact a.elim
    | val d => exact h r Z σ H Dn c a
    | own xs =>
      obtain ⟨Z', c', sz⟩ := c.frz er
      exact h _ Z' σ H Dn c' (All.mono a (fun _ x => x.shift sz) fun _ x => x)
end
end
end PV
end
section
set_option maxHeartbeats 8000000
/-! PvS8: each statement by its term. -/
namespace PV
open PySem PySem.Spec PyProof.Rows L2

/-! ### which statement -/
def notComp : Expr → Bool
  | .ListComp .. => false | .SetComp .. => false | .DictComp .. => false | _ => true
/-- the names that are stored the other way round -/
def swNames (sc : Scope) (ts : List Expr) : List Str := ts.filterMap fun
  | .Name id pos => if sc.names.lookup id == some .local && pos.line == (ts.head?.map (·.pos.line)).getD 0 then some id else none
  | _ => none
def notTup (sc : Scope) (ts : List Expr) : Expr → Bool
  | .Tuple vs _ _ => !(ts.length == 2 || ts.length == 3) || ((swNames sc ts).length != ts.length || vs.all (foldedForSure 8))
  | _ => true
theorem not_swapped {sc : Scope} {env : PySem.Env} (h : env.scope = sc) {ts : List Expr} {k : Nat} {p : Pos} {v : Expr} (hb : notTup sc ts v = true) : swappedStores [.Tuple ts k p] v env = pure none := by
  cases v <;> first
    | rfl
    | skip
  rename_i vs k2 p2
  have hb : (!(ts.length == 2 || ts.length == 3) || ((swNames sc ts).length != ts.length || vs.all (foldedForSure 8))) = true := hb
  unfold swappedStores
  simp only []
  split
  · rfl
  · rename_i c1
    split
    · rfl
    · generalize hn : List.filterMap _ ts = nm
      have e : nm = swNames sc ts := by
        subst h
        exact hn.symm
      subst e
      split
      · rfl
      · rename_i c2
        split
        · rfl
        · rename_i c3
          exfalso
          simp only [Bool.or_eq_true, not_or] at hb c1 c2
          rcases hb with q | q | q
          · exact c1.1.1 q
          · exact c2.1 q
          · exact c3 q
/-- x = [..] is stored from within -/
def swB (sc : Scope) (x : Str) (p : Pos) : Expr → Bool
  | .ListComp _ _ scope pos => (sc.names.lookup x == some .local) && p.line == pos.line && !(scope.names.any fun (n, k) => n == x && (k == .local || k == .cell))
  | _ => false
def okV : Expr → Bool
  | .ListComp .. => true | .SetComp .. => false | .DictComp .. => false | _ => true
def par2B (sc : Scope) : List Expr → List Expr → Bool
  | [.Name x px, .Name y py], [a, b] => decide (sc.names.lookup x = some .local) && decide (sc.names.lookup y = some .local) && decide (px.line = py.line) && decide (x ≠ y) && plainE a && plainE b && !(foldedForSure 8 a && foldedForSure 8 b) && !(constantsAlone 8 a && constantsAlone 8 b)
  | [.Name x px, .Name y py, .Name z pz], [a, b, c] => decide (sc.names.lookup x = some .local) && decide (sc.names.lookup y = some .local) && decide (sc.names.lookup z = some .local) && decide (px.line = py.line) && decide (px.line = pz.line) && decide (x ≠ y) && decide (x ≠ z) && decide (y ≠ z) && plainE a && plainE b && plainE c &&
      !(foldedForSure 8 a && foldedForSure 8 b && foldedForSure 8 c) && !(constantsAlone 8 a && constantsAlone 8 b && constantsAlone 8 c)
  | _, _ => false
theorem par2_swapped {sc : Scope} {env : PySem.Env} (h : env.scope = sc) (hk : sc.kind = .function) {x y : Str} {px py p p2 : Pos} {a b : Expr} {k k2 : Nat} (hb : par2B sc [.Name x px, .Name y py] [a, b] = true) :
    swappedStores [.Tuple [.Name x px, .Name y py] k p] (.Tuple [a, b] k2 p2) env = pure (some [x, y]) := by
  simp only [par2B, Bool.and_eq_true, decide_eq_true_eq, Bool.not_eq_true', Bool.and_eq_false_iff] at hb
  obtain ⟨⟨⟨⟨⟨⟨⟨h1, h2⟩, h3⟩, h4⟩, h5⟩, h6⟩, h7⟩, h8⟩ := hb
  have kx : env.kindOf x = some .local := by show env.scope.names.lookup x = _; rw [h]; exact h1
  have ky : env.kindOf y = some .local := by show env.scope.names.lookup y = _; rw [h]; exact h2
  have hbk : env.blockKind = .function := by unfold PySem.Env.blockKind; rw [h, hk]; rfl
  have f1 : (foldedForSure 8 a && foldedForSure 8 b) = false := by rw [Bool.and_eq_false_iff]; exact h7
  have f2 : (constantsAlone 8 a && constantsAlone 8 b) = false := by rw [Bool.and_eq_false_iff]; exact h8
  have ne : (y == x) = false := beq_eq_false_iff_ne.mpr fun e => h4 e.symm
  unfold swappedStores
  simp [kx, ky, hbk, f1, f2, Expr.pos, h3, List.eraseDups, List.eraseDupsBy, List.eraseDupsBy.loop, ne]
  intro q
  exfalso
  rcases q with q | q
  · clear h7 h8 f1 f2
    cases a <;> first
      | exact (Bool.false_ne_true q).elim
      | exact (Bool.false_ne_true h5).elim
  · clear h7 h8 f1 f2
    cases b <;> first
      | exact (Bool.false_ne_true q).elim
      | exact (Bool.false_ne_true h6).elim
theorem par3_swapped {sc : Scope} {env : PySem.Env} (h : env.scope = sc) (hk : sc.kind = .function) {x y z : Str} {px py pz p p2 : Pos} {a b c : Expr} {k k2 : Nat} (hb : par2B sc [.Name x px, .Name y py, .Name z pz] [a, b, c] = true) :
    swappedStores [.Tuple [.Name x px, .Name y py, .Name z pz] k p] (.Tuple [a, b, c] k2 p2) env = pure (some [x, y, z]) := by
  simp only [par2B, Bool.and_eq_true, decide_eq_true_eq, Bool.not_eq_true', Bool.and_eq_false_iff] at hb
  obtain ⟨⟨⟨⟨⟨⟨⟨⟨⟨⟨⟨⟨h1, h2⟩, h2'⟩, h3⟩, h3'⟩, h4⟩, h4'⟩, h4''⟩, h5⟩, h6⟩, h6'⟩, h7⟩, h8⟩ := hb
  have kx : env.kindOf x = some .local := by show env.scope.names.lookup x = _; rw [h]; exact h1
  have ky : env.kindOf y = some .local := by show env.scope.names.lookup y = _; rw [h]; exact h2
  have kz : env.kindOf z = some .local := by show env.scope.names.lookup z = _; rw [h]; exact h2'
  have hbk : env.blockKind = .function := by unfold PySem.Env.blockKind; rw [h, hk]; rfl
  have f1 : (foldedForSure 8 a && (foldedForSure 8 b && foldedForSure 8 c)) = false := by rw [← Bool.and_assoc, Bool.and_eq_false_iff, Bool.and_eq_false_iff]; exact h7
  have f2 : (constantsAlone 8 a && (constantsAlone 8 b && constantsAlone 8 c)) = false := by rw [← Bool.and_assoc, Bool.and_eq_false_iff, Bool.and_eq_false_iff]; exact h8
  have ne : (y == x) = false := beq_eq_false_iff_ne.mpr fun e => h4 e.symm
  have ne2 : (z == x) = false := beq_eq_false_iff_ne.mpr fun e => h4' e.symm
  have ne3 : (z == y) = false := beq_eq_false_iff_ne.mpr fun e => h4'' e.symm
  unfold swappedStores
  simp [kx, ky, kz, hbk, f1, f2, Expr.pos, ← h3, ← h3', List.eraseDups, List.eraseDupsBy, List.eraseDupsBy.loop, ne, ne2, ne3]
  intro q
  exfalso
  rcases q with q | q | q
  · clear h7 h8 f1 f2
    cases a <;> first
      | exact (Bool.false_ne_true q).elim
      | exact (Bool.false_ne_true h5).elim
  · clear h7 h8 f1 f2
    cases b <;> first
      | exact (Bool.false_ne_true q).elim
      | exact (Bool.false_ne_true h6).elim
  · clear h7 h8 f1 f2
    cases c <;> first
      | exact (Bool.false_ne_true q).elim
      | exact (Bool.false_ne_true h6').elim
/-- .. by places -/
def parNB (ck : Ck) : List Nat → List Expr → Bool
  | [], [] => true
  | i :: is, .Name x _ :: es => decide (ck.N[i]? = some x) && parNB ck is es
  | _, _ => false
def isFrz : S → Bool
  | .frz _ => true | _ => false
def consB : List Stmt → (Stmt → Bool) → (List Stmt → Bool) → Bool
  | st :: sts, f, h => f st && h sts
  | [], _, _ => false
section
variable (ck : Ck)
mutual
def chkS : S → Scope → Stmt → Bool
  | .asg i e, sc, .Assign [.Name x p] v _ => nmB ck sc (fun _ => true) i (.Name x p) && okV v && chkE ck e sc v
  | .asgF i e, sc, .Assign [.Name x p] v _ => nmB ck sc (fun _ => true) i (.Name x p) && okV v && chkE ck e sc v
  | .asgT is e, sc, .Assign [.Tuple ts _ _] v _ => nmsB ck sc (fun _ => true) is ts && chkE ck e sc v && notComp v && notTup sc ts v
  | .par is es, sc, .Assign [.Tuple ts _ _] (.Tuple vs _ _) _ => par2B sc ts vs && parNB ck is ts && decide is.Nodup && chkR ck es sc vs
  | .expr e, sc, .Expr v _ => chkE ck e sc v && notComp v
  | .pass, _, .Expr (.Constant (.str _) _ _) _ => true
  | .pass, _, .Pass _ => true
  | .app i e, sc, .Expr (.Call (.Attribute (.Name x _) m apos) [v] [] cpos) _ => visB ck sc i x && decide (m = ("append" : Str)) && chkE ck e sc v && plainE v && (apos.endLine == cpos.line)
  | .sset i ix e, sc, .Assign [.Subscript (.Name x _) s _] v _ => visB ck sc i x && chkE ck ix sc s && plainIxB s && chkE ck e sc v && okV v
  | .iff t a b, sc, .If c x y _ => chkT ck t sc c && chkB a sc x && chkB b sc y
  | .for_ tg it body, sc, .For tge ite st [] _ => tgCell ck sc (fun _ => true) tg tge && notSetB ite && chkI ck it sc tge ite && chkB body sc st
  | .while_ t body, sc, .While c st [] _ => chkT ck t sc c && chkB body sc st
  | .ret e, sc, .Return (some v) _ => chkE ck e sc v
  | .retN, _, .Return none _ => true
  | .raise k, sc, .Raise (some (.Call (.Name x _) [.Constant (.str _) _ _] [] _)) none _ => glB sc x && decide ((k, x) ∈ ck.cls)
  | .brk, _, .Break _ => true
  | .cont, _, .Continue _ => true
  | _, _, _ => false
termination_by structural t => t
def chkB : S → Scope → List Stmt → Bool
  | .nil, _, [] => true
  | .cons s r, sc, sts => if isFrz s = true then chkB r sc sts else consB sts (chkS s sc) (chkB r sc)
  | _, _, _ => false
termination_by structural t => t
end
end

/-! ### contexts of a def's body -/
structure ClsE (g : G) (k : Nat) (x : Str) : Prop where
  mg : g.mg x = some (.ref (g.cad k))
  kp : PySem.W.keepIn g.K (.ref (g.cad k)) = true
  ex : PySem.W.excIn g.K (g.cad k) [.type "ValueError", .type "Exception", .type "BaseException", .type "object"] "ValueError.__new__" = true
  sub : PySem.W.subIn g.K (.ref (g.cad k)) (.type "BaseException") = some true
  ty : PySem.W.typeIn g.K (.ref (g.cad k)) = some (.type "type")
structure CtxD (g : G) (ck : Ck) (sc : Scope) (W : Nat → Hp → Prop) (n : Nat) (C : Cx) : Prop where
  ok : CtxOk g ck sc W n C
  kind : sc.kind = .function
  po : PassesOwn (model C.prog C.w) C.A C.env C.xe
  fn : ∀ x, C.fn x = true
  cls : ∀ k x, (k, x) ∈ ck.cls → ClsE g k x
section
variable {g : G} {ck : Ck} {n : Nat} {call : Nat → List D → T D} {wh : Nat} {C : Cx} {sc : Scope} {W : Nat → Hp → Prop} {Z0 H0 : Hp}
abbrev SS (g : G) (C : Cx) (W : Nat → Hp → Prop) (Z0 H0 : Hp) (st : Stmt) (f : Env → T Fl) : Prop := ∃ t, PS C st t ∧ SimS g W Z0 H0 t f
abbrev SSs (g : G) (C : Cx) (W : Nat → Hp → Prop) (Z0 H0 : Hp) (st : List Stmt) (f : Env → T Fl) : Prop := ∃ t, PSs C st t ∧ SimS g W Z0 H0 t f
theorem swaps_none {e : Expr} {t : Option Expr} {l : Nat} {env : PySem.Env} (h : notComp e = true) : swapsWith e t l env = pure false := by
  cases e <;> first
    | rfl
    | exact (Bool.false_ne_true h).elim
/-- the parts of a comprehension -/
theorem comp_parts (c : CtxOk g ck sc W n C) (F : Facts g ck call n) {e : X} {el : Expr} {gens : List Comprehension} {scope : Scope} {pos : Pos} (h : chkE ck e sc (.ListComp el gens scope pos) = true) :
    ∃ (tge ite : Expr) (ifs : List Expr) (own : List (Str × Nat)) (wi : TI) (gt : TG) (tt : TT) (te : TE), gens = [⟨tge, ite, ifs, 0⟩] ∧ PI C tge ite wi ∧ BlkOk C.N C.env.scope scope own ∧
      (∀ (s : Shared) (H : Hp) (A : Addr) (cl : List (Str × Addr)) (fp : List Addr), PG (C.blk s H scope (compEnvC scope cl A C.env) fp) tge gt) ∧
      (∀ (s : Shared) (H : Hp) (A : Addr) (cl : List (Str × Addr)) (fp : List Addr), PTs (C.blk s H scope (compEnvC scope cl A C.env) fp) ifs tt) ∧
      (∀ (s : Shared) (H : Hp) (A : Addr) (cl : List (Str × Addr)) (fp : List Addr), PE (C.blk s H scope (compEnvC scope cl A C.env) fp) el te) ∧
      (∀ x, foldedSetIterable ite C.env x = pure x) ∧ SimE g W (tLc wi gt tt te (own.map (·.2))) (ev call e) := by
  cases e <;> first
    | exact (Bool.false_ne_true h).elim
    | skip
  rename_i tg it cond elt own
  match gens, h with
  | [⟨tge, ite, ifs, asy⟩], h =>
    by_cases ha : asy = 0
    · subst ha
      have h : (blkC ck.N sc scope own && tgCell ck (relS scope sc) (fun x => scope.names.lookup x == some .cell) tg tge && tgIn own tg && notSetB ite && chkI ck it sc tge ite && condB ifs (isYes cond) (chkT ck cond (relS scope sc)) && chkE ck elt (relS scope sc) el) = true := h
      simp only [Bool.and_eq_true] at h
      obtain ⟨⟨⟨⟨⟨⟨h1, h2⟩, h3⟩, h4⟩, h5⟩, h6⟩, h7⟩ := h
      obtain ⟨wi, q1, q2⟩ := (sound F it).I C sc W _ _ c h5
      have hb : BlkOk C.N C.env.scope scope own := by
        rw [c.N, c.sc]
        exact blkOk_by h1
      obtain ⟨gt, hg, sg⟩ := tg_any c F h2
      obtain ⟨te, he, se⟩ := E_any (sound F elt) c h7
      have hc : ∃ tt, (∀ (s : Shared) (H : Hp) (A : Addr) (cl : List (Str × Addr)) (fp : List Addr), PTs (C.blk s H scope (compEnvC scope cl A C.env) fp) ifs tt) ∧ SimB g (fun _ _ => False) tt (evs call cond).B := by
        match ifs, h6 with
        | [], h6 =>
          cases cond <;> first
            | exact (Bool.false_ne_true h6).elim
            | exact ⟨_, fun _ _ _ _ _ => pts_nil, sim_yes⟩
        | [cc], h6 =>
          obtain ⟨tt, k1, k2⟩ := B_any (sound F cond) c h6
          exact ⟨tt, fun s H A cl fp => pts_one (k1 s H A cl fp), k2⟩
        | _ :: _ :: _, h6 => exact (Bool.false_ne_true h6).elim
      obtain ⟨tt, ht, st⟩ := hc
      exact ⟨tge, ite, ifs, own, wi, gt, tt, te, rfl, q1, hb, hg, ht, he, notSet_ok h4, sim_comp q2 sg st se (tgIn_ok h3)⟩
    · exfalso
      match asy, ha, h with
      | .ofNat 0, ha, _ => exact ha rfl
      | .ofNat (_ + 1), _, h => exact Bool.false_ne_true h
      | .negSucc _, _, h => exact Bool.false_ne_true h
  | [], h => exact (Bool.false_ne_true h).elim
  | ⟨_, _, _, asy⟩ :: _ :: _, h =>
    exfalso
    match asy, h with
    | .ofNat 0, h => exact Bool.false_ne_true h
    | .ofNat (_ + 1), h => exact Bool.false_ne_true h
    | .negSucc _, h => exact Bool.false_ne_true h
/-- x = e, the term's reading stored -/
theorem ps_name (c : CtxD g ck sc W n C) (F : Facts g ck call n) {i : Nat} {x : Str} {p pos : Pos} {v : Expr} (hn : nmB ck sc (fun _ => true) i (.Name x p) = true) (hv : okV v = true) {e : X} (he : chkE ck e sc v = true) :
    ∃ t, PS C (.Assign [.Name x p] v pos) (tAsg t (gName i)) ∧ SimE g W t (ev call e) := by
  have hg := pg_nm c.ok F (fun x _ => c.fn x) hn
  have hw : swappedStores [.Name x p] v C.env = pure none := by
    first
      | rfl
      | (cases v <;> rfl)
  by_cases hc : notComp v = true
  · obtain ⟨t, h1, h2⟩ := (sound F e).E C sc W v c.ok he
    exact ⟨t, ps_asg h1 hg (show swapsWith v (some (.Name x p)) pos.line C.env = pure false from swaps_none hc) hw, h2⟩
  · cases v with
    | ListComp el gens scope p2 =>
      have hb : C.env.blockKind = .function := by unfold PySem.Env.blockKind; rw [c.ok.sc, c.kind]; rfl
      have hs : swapsWith (.ListComp el gens scope p2) (some (.Name x p)) pos.line C.env = pure (swB sc x p (.ListComp el gens scope p2)) := by
        have kx : C.env.kindOf x = sc.names.lookup x := by show C.env.scope.names.lookup x = _; rw [c.ok.sc]
        unfold swapsWith
        simp only [hb, kx]
        rfl
      cases q : swB sc x p (.ListComp el gens scope p2) with
      | false =>
        obtain ⟨t, h1, h2⟩ := (sound F e).E C sc W _ c.ok he
        exact ⟨t, ps_asg h1 hg (by rw [q] at hs; exact hs) hw, h2⟩
      | true =>
        rw [q] at hs
        obtain ⟨tge, ite, ifs, own, wi, gt, tt, te, rfl, k1, k2, k3, k4, k5, k6, k7⟩ := comp_parts c.ok F he
        have hN : C.N.Nodup := by rw [c.ok.N]; exact F.nd
        simp only [nmB, Bool.and_eq_true, decide_eq_true_eq] at hn
        have hy : C.N[i]? = some x := by rw [c.ok.N]; exact hn.1
        simp only [swB, Bool.and_eq_true, beq_iff_eq] at q
        have hyl : C.env.scope.names.lookup x = some .local := by rw [c.ok.sc]; exact q.1.1
        exact ⟨_, ps_setLc c.ok.calm hN hy hyl hs k1 k2 k3 k4 k5 k6, k7⟩
    | SetComp _ _ _ _ => exact (Bool.false_ne_true hv).elim
    | DictComp _ _ _ _ _ => exact (Bool.false_ne_true hv).elim
    | _ => exact absurd rfl hc

theorem par_names : ∀ {is : List Nat} {es : List Expr}, parNB ck is es = true → es.length = is.length
  | [], [], _ => rfl
  | [], _ :: _, h => (Bool.false_ne_true h).elim
  | _ :: _, [], h => (Bool.false_ne_true h).elim
  | i :: is, e :: es, h => by
    cases e <;> first
      | exact (Bool.false_ne_true h).elim
      | skip
    simp only [parNB, Bool.and_eq_true] at h
    exact congrArg Nat.succ (par_names h.2)
theorem ss_par (c : CtxD g ck sc W n C) (F : Facts g ck call n) {is : List Nat} {es : X} {ts vs : List Expr} {k k2 : Nat} {p p2 pos : Pos} (h : (par2B sc ts vs && parNB ck is ts && decide is.Nodup && chkR ck es sc vs) = true) :
    SS g C W Z0 H0 (.Assign [.Tuple ts k p] (.Tuple vs k2 p2) pos) (ex call wh (.par is es)) := by
  simp only [Bool.and_eq_true, decide_eq_true_eq] at h
  obtain ⟨⟨⟨h1, h2⟩, h3⟩, h4⟩ := h
  obtain ⟨t, q1, q2⟩ := (sound F es).R C sc W _ c.ok h4
  have hN : C.N.Nodup := by rw [c.ok.N]; exact F.nd
  unfold par2B at h1
  split at h1
  · rename_i x px y py a b
    have hw := par2_swapped c.ok.sc c.kind (k := k) (k2 := k2) (p := p) (p2 := p2) (x := x) (y := y) (px := px) (py := py) (a := a) (b := b) h1
    simp only [Bool.and_eq_true, decide_eq_true_eq] at h1
    match is, h2, h3 with
    | [i, j], h2, h3 =>
      simp only [parNB, Bool.and_eq_true, decide_eq_true_eq] at h2
      simp only [List.nodup_cons, List.mem_singleton] at h3
      have lx : C.env.scope.names.lookup x = some .local := by rw [c.ok.sc]; exact h1.1.1.1.1.1.1.1
      have ly : C.env.scope.names.lookup y = some .local := by rw [c.ok.sc]; exact h1.1.1.1.1.1.1.2
      refine ⟨_, ps_par c.ok.calm hN (by rw [c.ok.N]; exact h2.1) (by rw [c.ok.N]; exact h2.2.1) h3.1 lx ly q1 hw, simS_par q2 (fun _ _ _ h => h) fun Dn σ us H1 hl q => ?_⟩
      match us, hl, q with
      | [u, v], _, q => exact ⟨u, v, rfl, q⟩
    | [], h2, _ => exact (Bool.false_ne_true h2).elim
    | [_], h2, _ => simp [parNB] at h2
    | _ :: _ :: _ :: _, h2, _ => simp [parNB] at h2
  · rename_i x px y py z pz a b cc
    have hw := par3_swapped c.ok.sc c.kind (k := k) (k2 := k2) (p := p) (p2 := p2) (x := x) (y := y) (z := z) (px := px) (py := py) (pz := pz) (a := a) (b := b) (c := cc) h1
    simp only [Bool.and_eq_true, decide_eq_true_eq] at h1
    match is, h2, h3 with
    | [i, j, l], h2, h3 =>
      simp only [parNB, Bool.and_eq_true, decide_eq_true_eq] at h2
      simp only [List.nodup_cons, List.mem_cons, List.mem_singleton, not_or] at h3
      obtain ⟨⟨⟨⟨⟨⟨⟨⟨⟨⟨⟨⟨l1, l2⟩, l3⟩, _⟩, _⟩, _⟩, _⟩, _⟩, _⟩, _⟩, _⟩, _⟩, _⟩ := h1
      have lx : C.env.scope.names.lookup x = some .local := by rw [c.ok.sc]; exact l1
      have ly : C.env.scope.names.lookup y = some .local := by rw [c.ok.sc]; exact l2
      have lz : C.env.scope.names.lookup z = some .local := by rw [c.ok.sc]; exact l3
      refine ⟨_, ps_par3 c.ok.calm hN (by rw [c.ok.N]; exact h2.1) (by rw [c.ok.N]; exact h2.2.1) (by rw [c.ok.N]; exact h2.2.2.1) h3.1.1 (by first | exact h3.1.2.1 | exact h3.1.2) (by first | exact h3.2.1.1 | exact h3.2.1) lx ly lz q1 hw, simS_par q2 (fun _ _ _ h => h) fun Dn σ us H1 hl q => ?_⟩
      match us, hl, q with
      | [u, v, w], _, q => exact ⟨u, v, w, rfl, q⟩
    | [], h2, _ => exact (Bool.false_ne_true h2).elim
    | [_], h2, _ => simp [parNB] at h2
    | [_, _], h2, _ => simp [parNB] at h2
    | _ :: _ :: _ :: _ :: _, h2, _ => simp [parNB] at h2
  · cases h1
/-- x.append(v) -/
theorem ss_app (c : CtxD g ck sc W n C) (F : Facts g ck call n) {i : Nat} {e : X} {x m : Str} {v : Expr} {px apos cpos pos : Pos} (h : (visB ck sc i x && decide (m = ("append" : Str)) && chkE ck e sc v && plainE v && (apos.endLine == cpos.line)) = true) :
    SS g C W Z0 H0 (.Expr (.Call (.Attribute (.Name x px) m apos) [v] [] cpos) pos) (ex call wh (.app i e)) := by
  simp only [Bool.and_eq_true, decide_eq_true_eq] at h
  obtain ⟨⟨⟨⟨h1, h2⟩, h3⟩, h4⟩, h5⟩ := h
  subst h2
  obtain ⟨t, q1, q2⟩ := (sound F e).E C sc W _ c.ok h3
  have hs := plain_star (es := []) (env := C.env) h4
  have hm : MtR C "list.append" rAppend := mt_append
  have e1 : PE C (.Call (.Attribute (.Name x px) "append" apos) [v] [] cpos) (tBM g.K "list" rAppend (tVar i) (tCons t tNil)) := by
    rw [← c.ok.K]
    exact pe_bm PySem.F.plainAttrs_list PySem.F.slot_list_append PySem.F.type_list_append hm (visB_ok c.ok h1) (pa_cons q1 pa_nil hs) rfl (by rw [hs]; rfl) h5 hs rfl
  exact ⟨_, ps_expr e1 rfl, simS_app q2⟩
theorem ss_sset (c : CtxD g ck sc W n C) (F : Facts g ck call n) {i : Nat} {ix e : X} {x : Str} {s v : Expr} {px ps pos : Pos} (h : (visB ck sc i x && chkE ck ix sc s && plainIxB s && chkE ck e sc v && okV v) = true) :
    SS g C W Z0 H0 (.Assign [.Subscript (.Name x px) s ps] v pos) (ex call wh (.sset i ix e)) := by
  simp only [Bool.and_eq_true] at h
  obtain ⟨⟨⟨⟨h1, h2⟩, h3⟩, h4⟩, h5⟩ := h
  obtain ⟨ti, k1, k2⟩ := (sound F ix).E C sc W _ c.ok h2
  obtain ⟨t, q1, q2⟩ := (sound F e).E C sc W _ c.ok h4
  have hs : swapsWith v (some (.Subscript (.Name x px) s ps)) pos.line C.env = pure false := by
    cases v <;> first
      | rfl
      | exact (Bool.false_ne_true h5).elim
  have hw : swappedStores [.Subscript (.Name x px) s ps] v C.env = pure none := by
    first
      | rfl
      | (cases v <;> rfl)
  have hg : PG C (.Subscript (.Name x px) s ps) (gSub (tVar i) ti rSetL) := by
    cases s <;> first
      | exact pg_sub (visB_ok c.ok h1) k1 set_list
      | exact (Bool.false_ne_true h3).elim
  exact ⟨_, ps_asg q1 hg hs hw, simS_sset q2 k2⟩
theorem ss_raise (c : CtxD g ck sc W n C) {k : Nat} {x m : Str} {j : Nat} {px pm pc pos : Pos} (h : (glB sc x && decide ((k, x) ∈ ck.cls)) = true) :
    SS g C W Z0 H0 (.Raise (some (.Call (.Name x px) [.Constant (.str m) j pm] [] pc)) none pos) (ex call wh (.raise k)) := by
  simp only [Bool.and_eq_true, decide_eq_true_eq] at h
  obtain ⟨h1, h2⟩ := h
  have K := c.cls k x h2
  have e1 : PMk C (.Call (.Name x px) [.Constant (.str m) j pm] [] pc) (fun _ H Q => Q (.ref (g.cad k)) none H) :=
    pmk_own PySem.F.excBase_ValueError (by rw [c.ok.K]; exact K.ex) (by rw [c.ok.mg]; exact K.mg) (by rw [c.ok.K]; exact K.kp) (raises_own (by rw [c.ok.K]; exact K.sub) (by rw [c.ok.K]; exact K.ty)) (c.ok.gl h1) (glB_ok h1).2.1
  exact ⟨_, ps_raise c.ok.calm c.ok.tk e1, simS_raise trivial⟩
theorem ss_asgT (c : CtxD g ck sc W n C) (F : Facts g ck call n) {is : List Nat} {e : X} {ts : List Expr} {v : Expr} {k : Nat} {p pos : Pos} (h : (nmsB ck sc (fun _ => true) is ts && chkE ck e sc v && notComp v && notTup sc ts v) = true) :
    SS g C W Z0 H0 (.Assign [.Tuple ts k p] v pos) (ex call wh (.asgT is e)) := by
  simp only [Bool.and_eq_true] at h
  obtain ⟨⟨⟨h1, h2⟩, h3⟩, h4⟩ := h
  obtain ⟨t, q1, q2⟩ := (sound F e).E C sc W _ c.ok h2
  have hg := pg_tg c.ok F (f := fun _ => true) (fun x _ => c.fn x) (tg := .tp is) (e := .Tuple ts k p) h1
  have hw : swappedStores [.Tuple ts k p] v C.env = pure none := not_swapped c.ok.sc h4
  exact ⟨_, ps_asg q1 hg (show swapsWith v (some (.Tuple ts k p)) pos.line C.env = pure false from swaps_none h3) hw, simS_asgT (simG_tg (.tp is)) q2⟩

theorem ss_ret (c : CtxD g ck sc W n C) (F : Facts g ck call n) {e : X} {v : Expr} {pos : Pos} (h : chkE ck e sc v = true) : SS g C W Z0 H0 (.Return (some v) pos) (ex call wh (.ret e)) := by
  obtain ⟨t, q1, q2⟩ := (sound F e).E C sc W _ c.ok h
  cases e <;> first
    | exact ⟨_, ps_ret q1, simS_ret q2⟩
    | skip
  cases v <;> first
    | exact (Bool.false_ne_true h).elim
    | skip
  exact ⟨_, ps_ret (visB_ok c.ok h), simS_retV⟩
theorem simS_nx : SimS g W Z0 H0 tNext fun r => .ret (.nx r) := fun r Z σ H Dn c a => a Z σ H c rfl fun _ _ e => e
structure SndS (g : G) (ck : Ck) (call : Nat → List D → T D) (wh n : Nat) (sc : Scope) (W : Nat → Hp → Prop) (C : Cx) (Z0 H0 : Hp) (s : S) : Prop where
  S : ∀ st, chkS ck s sc st = true → SS g C W Z0 H0 st (ex call wh s)
  B : ∀ sts, chkB ck s sc sts = true → SSs g C W Z0 H0 sts (ex call wh s)
theorem soundS (c : CtxD g ck sc W n C) (F : Facts g ck call n) (s : S) : SndS g ck call wh n sc W C Z0 H0 s := by
  induction s with
  | nil =>
    refine ⟨fun st h => (Bool.false_ne_true h).elim, fun sts h => ?_⟩
    cases sts with
    | nil => exact ⟨_, pss_nil, simS_nx⟩
    | cons _ _ => exact (Bool.false_ne_true h).elim
  | cons s r ihs ihr =>
    refine ⟨fun st h => (Bool.false_ne_true h).elim, fun sts h => ?_⟩
    have h : (if isFrz s = true then chkB ck r sc sts else consB sts (chkS ck s sc) (chkB ck r sc)) = true := h
    by_cases hf : isFrz s = true
    · rw [if_pos hf] at h
      cases s <;> first
        | exact (Bool.false_ne_true hf).elim
        | skip
      obtain ⟨t, q1, q2⟩ := ihr.B sts h
      exact ⟨t, q1, simS_frz q2⟩
    · rw [if_neg hf] at h
      cases sts with
      | nil => exact (Bool.false_ne_true h).elim
      | cons st sts =>
        have h : (chkS ck s sc st && chkB ck r sc sts) = true := h
        rw [Bool.and_eq_true] at h
        obtain ⟨t, q1, q2⟩ := ihs.S st h.1
        obtain ⟨u, k1, k2⟩ := ihr.B sts h.2
        exact ⟨_, pss_cons q1 k1, simS_seq q2 k2⟩
  | asg i e =>
    refine ⟨fun st h => ?_, fun sts h => (Bool.false_ne_true h).elim⟩
    cases st with
    | Assign ts v pos =>
      match ts, h with
      | [.Name x p], h =>
        have h : (nmB ck sc (fun _ => true) i (.Name x p) && okV v && chkE ck e sc v) = true := h
        simp only [Bool.and_eq_true] at h
        obtain ⟨t, q1, q2⟩ := ps_name c F h.1.1 h.1.2 (pos := pos) h.2
        exact ⟨_, q1, simS_asg q2⟩
      | [], h => exact (Bool.false_ne_true h).elim
      | a :: _ :: _, h => exfalso; cases a <;> exact Bool.false_ne_true h
      | [a], h => cases a <;> first
        | exact (Bool.false_ne_true h).elim
        | (rename_i x p
           have h : (nmB ck sc (fun _ => true) i (.Name x p) && okV v && chkE ck e sc v) = true := h
           simp only [Bool.and_eq_true] at h
           obtain ⟨t, q1, q2⟩ := ps_name c F h.1.1 h.1.2 (pos := pos) h.2
           exact ⟨_, q1, simS_asg q2⟩)
    | _ => exact (Bool.false_ne_true h).elim
  | asgF i e =>
    refine ⟨fun st h => ?_, fun sts h => (Bool.false_ne_true h).elim⟩
    cases st with
    | Assign ts v pos =>
      match ts, h with
      | [], h => exact (Bool.false_ne_true h).elim
      | a :: _ :: _, h => exfalso; cases a <;> exact Bool.false_ne_true h
      | [a], h => cases a <;> first
        | exact (Bool.false_ne_true h).elim
        | (rename_i x p
           have h : (nmB ck sc (fun _ => true) i (.Name x p) && okV v && chkE ck e sc v) = true := h
           simp only [Bool.and_eq_true] at h
           obtain ⟨t, q1, q2⟩ := ps_name c F h.1.1 h.1.2 (pos := pos) h.2
           exact ⟨_, q1, simS_asgF q2⟩)
    | _ => exact (Bool.false_ne_true h).elim
  | asgT is e =>
    refine ⟨fun st h => ?_, fun sts h => (Bool.false_ne_true h).elim⟩
    cases st with
    | Assign ts v pos =>
      match ts, h with
      | [], h => exact (Bool.false_ne_true h).elim
      | a :: _ :: _, h => exfalso; cases a <;> exact Bool.false_ne_true h
      | [a], h => cases a <;> first
        | exact (Bool.false_ne_true h).elim
        | exact ss_asgT c F h
    | _ => exact (Bool.false_ne_true h).elim
  | par is es =>
    refine ⟨fun st h => ?_, fun sts h => (Bool.false_ne_true h).elim⟩
    cases st with
    | Assign ts v pos =>
      match ts, h with
      | [], h => exact (Bool.false_ne_true h).elim
      | a :: _ :: _, h => exfalso; cases a <;> cases v <;> exact Bool.false_ne_true h
      | [a], h => cases a <;> first
        | exact (Bool.false_ne_true h).elim
        | (cases v <;> first
            | exact (Bool.false_ne_true h).elim
            | exact ss_par c F h)
    | _ => exact (Bool.false_ne_true h).elim
  | expr e =>
    refine ⟨fun st h => ?_, fun sts h => (Bool.false_ne_true h).elim⟩
    cases st with
    | Expr v pos =>
      have h : (chkE ck e sc v && notComp v) = true := h
      rw [Bool.and_eq_true] at h
      obtain ⟨t, q1, q2⟩ := (sound F e).E C sc W _ c.ok h.1
      exact ⟨_, ps_expr q1 (swaps_none h.2), simS_expr q2⟩
    | _ => exact (Bool.false_ne_true h).elim
  | app i e =>
    refine ⟨fun st h => ?_, fun sts h => (Bool.false_ne_true h).elim⟩
    cases st with
    | Expr v pos => cases v with
      | Call fn args kws cpos => cases fn with
        | Attribute o m apos => cases o with
          | Name x px =>
            match args, kws, h with
            | [v], [], h => exact ss_app c F h
            | [], _, h => exact (Bool.false_ne_true h).elim
            | [_], _ :: _, h => exact (Bool.false_ne_true h).elim
            | _ :: _ :: _, _, h => exact (Bool.false_ne_true h).elim
          | _ => exact (Bool.false_ne_true h).elim
        | _ => exact (Bool.false_ne_true h).elim
      | _ => exact (Bool.false_ne_true h).elim
    | _ => exact (Bool.false_ne_true h).elim
  | sset i ix e =>
    refine ⟨fun st h => ?_, fun sts h => (Bool.false_ne_true h).elim⟩
    cases st with
    | Assign ts v pos =>
      match ts, h with
      | [], h => exact (Bool.false_ne_true h).elim
      | a :: _ :: _, h =>
        exfalso
        cases a <;> first
          | exact Bool.false_ne_true h
          | (rename_i o _ _; cases o <;> exact Bool.false_ne_true h)
      | [.Subscript o s ps], h =>
        cases o <;> first
          | exact (Bool.false_ne_true h).elim
          | exact ss_sset c F h
      | [a], h => cases a <;> first
        | exact (Bool.false_ne_true h).elim
        | (rename_i o _ _; cases o <;> first
            | exact (Bool.false_ne_true h).elim
            | exact ss_sset c F h)
    | _ => exact (Bool.false_ne_true h).elim
  | iff t a b iha ihb =>
    refine ⟨fun st h => ?_, fun sts h => (Bool.false_ne_true h).elim⟩
    cases st with
    | If x y z pos =>
      have h : (chkT ck t sc x && chkB ck a sc y && chkB ck b sc z) = true := h
      simp only [Bool.and_eq_true] at h
      obtain ⟨tt, q1, q2⟩ := (sound F t).T C sc W _ c.ok h.1.1
      obtain ⟨ta, k1, k2⟩ := iha.B _ h.1.2
      obtain ⟨tb, j1, j2⟩ := ihb.B _ h.2
      exact ⟨_, ps_if q1 k1 j1, simS_if q2 k2 j2⟩
    | _ => exact (Bool.false_ne_true h).elim
  | for_ tg it body ih =>
    refine ⟨fun st h => ?_, fun sts h => (Bool.false_ne_true h).elim⟩
    cases st with
    | For tge ite st els pos => cases els with
      | nil =>
        have h : (tgCell ck sc (fun _ => true) tg tge && notSetB ite && chkI ck it sc tge ite && chkB ck body sc st) = true := h
        simp only [Bool.and_eq_true] at h
        obtain ⟨ti, q1, q2⟩ := (sound F it).I C sc W _ _ c.ok h.1.2
        obtain ⟨tb, k1, k2⟩ := ih.B _ h.2
        have hg := pg_tg c.ok F (f := fun _ => true) (fun x _ => c.fn x) h.1.1.1
        exact ⟨_, ps_for c.po c.ok.calm q1 hg k1 (notSet_ok h.1.1.2), simS_for q2 (simG_tg tg) k2⟩
      | cons _ _ => exact (Bool.false_ne_true h).elim
    | _ => exact (Bool.false_ne_true h).elim
  | while_ t body ih =>
    refine ⟨fun st h => ?_, fun sts h => (Bool.false_ne_true h).elim⟩
    cases st with
    | While x st els pos => cases els with
      | nil =>
        have h : (chkT ck t sc x && chkB ck body sc st) = true := h
        simp only [Bool.and_eq_true] at h
        obtain ⟨tt, q1, q2⟩ := (sound F t).T C sc W _ c.ok h.1
        obtain ⟨tb, k1, k2⟩ := ih.B _ h.2
        exact ⟨_, ps_while c.po q1 k1, simS_while q2 k2⟩
      | cons _ _ => exact (Bool.false_ne_true h).elim
    | _ => exact (Bool.false_ne_true h).elim
  | ret e =>
    refine ⟨fun st h => ?_, fun sts h => (Bool.false_ne_true h).elim⟩
    cases st with
    | Return v pos => cases v with
      | some v => exact ss_ret c F h
      | none => exact (Bool.false_ne_true h).elim
    | _ => exact (Bool.false_ne_true h).elim
  | retN =>
    refine ⟨fun st h => ?_, fun sts h => (Bool.false_ne_true h).elim⟩
    cases st with
    | Return v pos => cases v with
      | some v => exact (Bool.false_ne_true h).elim
      | none => exact ⟨_, ps_retN, fun r Z σ H Dn c a => a _ Z H c.stp rfl (.of .non)⟩
    | _ => exact (Bool.false_ne_true h).elim
  | raise k =>
    refine ⟨fun st h => ?_, fun sts h => (Bool.false_ne_true h).elim⟩
    cases st with
    | Raise x y pos => cases y with
      | none => cases x with
        | some x => cases x with
          | Call fn args kws pc => cases fn with
            | Name x px =>
              match args, kws, h with
              | [.Constant (.str m) j pm], [], h => exact ss_raise c h
              | [], _, h => exact (Bool.false_ne_true h).elim
              | a :: _ :: _, _, h =>
                exfalso
                cases a <;> first
                  | exact Bool.false_ne_true h
                  | (rename_i q _ _; cases q <;> exact Bool.false_ne_true h)
              | [a], _ :: _, h =>
                exfalso
                cases a <;> first
                  | exact Bool.false_ne_true h
                  | (rename_i q _ _; cases q <;> exact Bool.false_ne_true h)
              | [a], [], h =>
                cases a <;> first
                  | exact (Bool.false_ne_true h).elim
                  | (rename_i q _ _; cases q <;> first
                      | exact (Bool.false_ne_true h).elim
                      | exact ss_raise c h)
            | _ => exact (Bool.false_ne_true h).elim
          | _ => exact (Bool.false_ne_true h).elim
        | none => exact (Bool.false_ne_true h).elim
      | some _ => cases x with
        | none => exact (Bool.false_ne_true h).elim
        | some x =>
          exfalso
          cases x <;> first
            | exact Bool.false_ne_true h
            | (rename_i fn args kws _
               cases fn <;> first
                 | exact Bool.false_ne_true h
                 | (match args, kws, h with
                    | [], _, h => exact Bool.false_ne_true h
                    | [a], [], h => cases a <;> first
                      | exact Bool.false_ne_true h
                      | (rename_i q _ _; cases q <;> exact Bool.false_ne_true h)
                    | [a], _ :: _, h => cases a <;> first
                      | exact Bool.false_ne_true h
                      | (rename_i q _ _; cases q <;> exact Bool.false_ne_true h)
                    | a :: _ :: _, _, h => cases a <;> first
                      | exact Bool.false_ne_true h
                      | (rename_i q _ _; cases q <;> exact Bool.false_ne_true h)))
    | _ => exact (Bool.false_ne_true h).elim
  | frz i => exact ⟨fun st h => (Bool.false_ne_true h).elim, fun sts h => (Bool.false_ne_true h).elim⟩
  | brk =>
    refine ⟨fun st h => ?_, fun sts h => (Bool.false_ne_true h).elim⟩
    cases st with
    | Break pos => exact ⟨_, ps_break, fun r Z σ H Dn c a => a Z σ H c rfl fun _ _ e => e⟩
    | _ => exact (Bool.false_ne_true h).elim
  | cont =>
    refine ⟨fun st h => ?_, fun sts h => (Bool.false_ne_true h).elim⟩
    cases st with
    | Continue pos => exact ⟨_, ps_continue, fun r Z σ H Dn c a => a Z σ H c rfl fun _ _ e => e⟩
    | _ => exact (Bool.false_ne_true h).elim
  | pass =>
    refine ⟨fun st h => ?_, fun sts h => (Bool.false_ne_true h).elim⟩
    cases st with
    | Pass pos => exact ⟨_, ps_pass, simS_nx⟩
    | Expr v pos => cases v with
      | Constant k j p => cases k with
        | str x => exact ⟨_, ps_doc, simS_nx⟩
        | _ => exact (Bool.false_ne_true h).elim
      | _ => exact (Bool.false_ne_true h).elim
    | _ => exact (Bool.false_ne_true h).elim
end
end PV
end
section
set_option maxHeartbeats 8000000
/-! PvS9: each def by its term. -/
namespace PV
open PySem PySem.Spec PyProof.Rows L2
theorem startE_get {N : List Str} {ds : List D} {i : Nat} {s : Sl} (h : (startE N ds)[i]? = some s) : (∃ d, ds[i]? = some d ∧ s = .val d) ∨ (ds.length ≤ i ∧ s = .un) := by
  unfold startE at h
  by_cases hi : i < ds.length
  · rw [List.getElem?_append_left (by simpa using hi), List.getElem?_map] at h
    cases e : ds[i]? with
    | none => rw [e] at h; cases h
    | some d => rw [e] at h; cases h; exact .inl ⟨d, rfl, rfl⟩
  · rw [List.getElem?_append_right (by simpa using hi), List.getElem?_replicate] at h
    split at h
    · cases h; exact .inr ⟨by omega, rfl⟩
    · cases h
theorem start_cfg {g : G} {N : List Str} {Z H : Hp} {vs : List V} {ds : List D} (p : Pre g Z H) (r : Reps g Z vs ds) (hl : vs.length ≤ N.length) : SCfg g Z H (startE N ds) Z (L2.start N vs) H := by
  have hlen := r.length
  refine ⟨⟨p, ?_, fun i s h => ?_⟩, .refl p, fun i xs a h => ?_, fun i j xs ys a _ h => ?_⟩
  · unfold startE L2.start
    simp only [List.length_append, List.length_map, List.length_replicate]
    omega
  · have hi : i < (startE N ds).length := (List.getElem?_eq_some_iff.mp h).1
    unfold startE at hi
    simp only [List.length_append, List.length_map, List.length_replicate] at hi
    rcases startE_get h with ⟨d, h1, rfl⟩ | ⟨h1, rfl⟩
    · obtain ⟨v, k1, k2⟩ := r.get h1
      refine ⟨some v, ?_, v, rfl, k2⟩
      unfold L2.start
      have hv : i < vs.length := (List.getElem?_eq_some_iff.mp k1).1
      rw [List.getElem?_append_left (by simpa using hv), List.getElem?_map, k1]
      rfl
    · refine ⟨none, ?_, trivial⟩
      unfold L2.start
      rw [List.getElem?_append_right (by simp; omega), List.getElem?_replicate, if_pos (by simp; omega)]
  · rcases startE_get h with ⟨d, _, e⟩ | ⟨_, e⟩ <;> cases e
  · rcases startE_get h with ⟨d, _, e⟩ | ⟨_, e⟩ <;> cases e
/-- THE THEOREM: a def whose body is what its term says -/
theorem fn_sound {g : G} {ck : Ck} {n wh k : Nat} {P : Tab} {d : Df} {x : Str} {st : Stmt} {f : Addr} {fd : FuncData} (F : FunD g.K x x (defArgs st) (defBody st) (defScope st) [] [] f fd) (S : FnScope d.N d.ps (defScope st))
    (hN : ck.N = d.N) (fa : Facts g ck (callF P wh n) n) (cls : ∀ k x, (k, x) ∈ ck.cls → ClsE g k x) (hc : chkB ck d.body (defScope st) (defBody st) = true) (hP : P.lookup (k + 1) = some d) :
    FnOk g.P g.w g.K g.mg g.base (L2.CX g.P g.w) (n + 1) f fd d.ps (spD g (callF P wh (n + 1)) (k + 1)) := by
  have hcall : ∀ ds, callF P wh (n + 1) (k + 1) ds = runD (callF P wh n) wh d ds := fun ds => by
    show (match P.lookup (k + 1) with | some d => runD (callF P wh n) wh d ds | none => .bad) = _
    rw [hP]
  have hpl : d.ps.length ≤ d.N.length := by
    have := congrArg List.length S.pre
    rw [List.length_take] at this
    omega
  refine F.ok S (fun vs H Q E h => ?_) (fun cdv A outer s H vs Q E hr h => ?_)
  · obtain ⟨Z, ds, p, r, a⟩ := h
    rw [hcall] at a
    unfold runD at a
    split at a
    · rename_i e
      rw [r.length]; exact e
    · exact a.elim
  · obtain ⟨Z, ds, p, r, a⟩ := h
    rw [hcall] at a
    unfold runD at a
    split at a
    · rename_i hl
      have c : CtxD g ck (defScope st) (fun c H' => E (.ref (g.cad c)) none H') n (cxOf (L2.CX g.P g.w) g.P g.w g.K g.mg g.base d.N x (defScope st) f cdv A outer s H E) := by
        refine ⟨⟨rfl, rfl, rfl, rfl, rfl, hN.symm, rfl, rfl, hr, ?_⟩, S.kind, passes_of rfl, fun _ => rfl, cls⟩
        exact (takes_of (E := E) rfl rfl rfl rfl).imp fun cls d _ H h => by
          obtain ⟨c, rfl, rfl, h⟩ := h
          exact h
      obtain ⟨t, q1, q2⟩ := (soundS (wh := wh) (Z0 := Z) (H0 := H) c fa d.body).B _ hc
      refine ⟨t, q1, q2 _ Z _ H _ (start_cfg p r (by rw [r.length, hl]; exact hpl)) ?_⟩
      rw [all_bind] at a
      refine All.mono a (fun fl q => ?_) fun _ x => x
      cases fl with
      | nx r' => exact fun Z' σ' H' c' e _ => q _ Z' H' c'.stp e (.of .non)
      | rt v => exact q
      | bk r' => exact q.elim
      | ct r' => exact q.elim
    · exact a.elim
end PV
end
section
set_option maxHeartbeats 4000000
/-! PvD0: the state of the draws. -/
namespace PV
open PySem PySem.Spec PyProof.Rows L2
def stK (l t : Int) (gr ce : Addr) : List (Key × V) := [(.inr "great", .ref gr), (.inr "cells", .ref ce), (.inr "left", .int l), (.inr "turn", .int t)]
theorem kne {x y : Str} (h : (x == y) = false) : ¬ (Sum.inr x : Key) = .inr y := fun e => by
  cases e
  rw [beq_self_eq_true] at h
  cases h
section
variable {l t v : Int} {gr ce : Addr}
theorem val_great : valV (stK l t gr ce) (.inr "great") = some (.ref gr) := valV_pos rfl
theorem val_cells : valV (stK l t gr ce) (.inr "cells") = some (.ref ce) := (valV_neg (kne (by decide +kernel))).trans (valV_pos rfl)
theorem val_left : valV (stK l t gr ce) (.inr "left") = some (.int l) := (valV_neg (kne (by decide +kernel))).trans ((valV_neg (kne (by decide +kernel))).trans (valV_pos rfl))
theorem val_turn : valV (stK l t gr ce) (.inr "turn") = some (.int t) := (valV_neg (kne (by decide +kernel))).trans ((valV_neg (kne (by decide +kernel))).trans ((valV_neg (kne (by decide +kernel))).trans (valV_pos rfl)))
theorem put_left : putK (stK l t gr ce) (.inr "left") (.int v) = stK v t gr ce := by
  have h1 : ¬ (Sum.inr "great" : Key) = .inr "left" := kne (by decide +kernel)
  have h2 : ¬ (Sum.inr "cells" : Key) = .inr "left" := kne (by decide +kernel)
  have h3 : ¬ (Sum.inr "turn" : Key) = .inr "left" := kne (by decide +kernel)
  simp only [putK, stK, List.any_cons, List.map_cons, List.map_nil, h1, h2, h3, decide_false, decide_true, Bool.or_true, Bool.true_or, if_true, if_false]
theorem put_turn : putK (stK l t gr ce) (.inr "turn") (.int v) = stK l v gr ce := by
  have h1 : ¬ (Sum.inr "great" : Key) = .inr "turn" := kne (by decide +kernel)
  have h2 : ¬ (Sum.inr "cells" : Key) = .inr "turn" := kne (by decide +kernel)
  have h3 : ¬ (Sum.inr "left" : Key) = .inr "turn" := kne (by decide +kernel)
  simp only [putK, stK, List.any_cons, List.map_cons, List.map_nil, h1, h2, h3, decide_false, decide_true, Bool.or_true, Bool.true_or, Bool.false_or, if_true, if_false]
end
structure GoodAt (s gr ce : Addr) (l t : Int) (ns cs : List Int) (H : Hp) : Prop where
  st : H s = some (.dK (stK l t gr ce))
  gr : H gr = some (.lst (ns.map V.int))
  ce : H ce = some (.lst (cs.map V.int))
  l0 : 0 ≤ l
  t0 : 0 ≤ t
  n0 : ∀ n ∈ ns, 0 ≤ n
  c0 : ∀ n ∈ cs, 0 ≤ n
  nl : ns.length ≤ 63
  cl : cs.length ≤ 63
/-- so many draws, no more -/
def LIM : Nat := 2 ^ 1000000
def turnOf (s : Addr) (H : Hp) : Int := match H s with
  | some (.dK kvs) => (match valV kvs (.inr "turn") with
    | some (.int t) => t
    | _ => 0)
  | _ => 0
def budD (s : Addr) (H : Hp) : Nat := LIM - (turnOf s H).toNat
def GoodD (s gr ce : Addr) (H : Hp) : Prop := gr ≠ ce ∧ ∃ l t ns cs, GoodAt s gr ce l t ns cs H
section
variable {s gr ce : Addr} {l t v : Int} {ns cs : List Int} {H : Hp}
theorem GoodAt.sg (g : GoodAt s gr ce l t ns cs H) : gr ≠ s := ne_of g.gr g.st (by intro z; cases z)
theorem GoodAt.sc (g : GoodAt s gr ce l t ns cs H) : ce ≠ s := ne_of g.ce g.st (by intro z; cases z)
theorem GoodAt.left (g : GoodAt s gr ce l t ns cs H) (h : 0 ≤ v) : GoodAt s gr ce v t ns cs (upd H s (.dK (stK v t gr ce))) :=
  ⟨upd_same, by rw [upd_ne g.sg]; exact g.gr, by rw [upd_ne g.sc]; exact g.ce, h, g.t0, g.n0, g.c0, g.nl, g.cl⟩
theorem GoodAt.turn (g : GoodAt s gr ce l t ns cs H) (h : 0 ≤ v) : GoodAt s gr ce l v ns cs (upd H s (.dK (stK l v gr ce))) :=
  ⟨upd_same, by rw [upd_ne g.sg]; exact g.gr, by rw [upd_ne g.sc]; exact g.ce, g.l0, h, g.n0, g.c0, g.nl, g.cl⟩
theorem GoodAt.keep {H' : Hp} (g : GoodAt s gr ce l t ns cs H) (h : ∀ a o, H a = some o → H' a = some o) : GoodAt s gr ce l t ns cs H' := ⟨h _ _ g.st, h _ _ g.gr, h _ _ g.ce, g.l0, g.t0, g.n0, g.c0, g.nl, g.cl⟩
theorem dg_turn (g : GoodAt s gr ce l t ns cs H) : DGet H s (.str "turn") (some (.int t)) := by rw [← val_turn]; exact DGet.k (k := Sum.inr "turn") g.st
theorem dg_left (g : GoodAt s gr ce l t ns cs H) : DGet H s (.str "left") (some (.int l)) := by rw [← val_left]; exact DGet.k (k := Sum.inr "left") g.st
theorem dg_great (g : GoodAt s gr ce l t ns cs H) : DGet H s (.str "great") (some (.ref gr)) := by rw [← val_great]; exact DGet.k (k := Sum.inr "great") g.st
theorem dg_cells (g : GoodAt s gr ce l t ns cs H) : DGet H s (.str "cells") (some (.ref ce)) := by rw [← val_cells]; exact DGet.k (k := Sum.inr "cells") g.st
theorem dp_turn (g : GoodAt s gr ce l t ns cs H) : DPut H s (.str "turn") (.int v) (upd H s (.dK (stK l v gr ce))) := by rw [← put_turn (t := t)]; exact DPut.k (k := Sum.inr "turn") g.st (by show 4 < sizeLine; rw [sizeLine_eq]; omega)
theorem dp_left (g : GoodAt s gr ce l t ns cs H) : DPut H s (.str "left") (.int v) (upd H s (.dK (stK v t gr ce))) := by rw [← put_left (l := l)]; exact DPut.k (k := Sum.inr "left") g.st (by show 4 < sizeLine; rw [sizeLine_eq]; omega)
end
theorem GoodAt.turnOf {s gr ce : Addr} {l t : Int} {ns cs : List Int} {H : Hp} (g : GoodAt s gr ce l t ns cs H) : turnOf s H = t := by
  unfold PV.turnOf
  rw [g.st]
  show (match valV (stK l t gr ce) (.inr "turn") with | some (.int t) => t | _ => 0) = t
  rw [val_turn]
theorem GoodAt.bud {s gr ce : Addr} {l t : Int} {ns cs : List Int} {H : Hp} (g : GoodAt s gr ce l t ns cs H) : budD s H = LIM - t.toNat := by
  unfold budD
  rw [g.turnOf]
/-- ** of a great number -/
def CPowW (i j : Int) : Prop := 0 ≤ j ∧ (i.natAbs.log2 + 1 : Int) * j ≤ 2 ^ 27
theorem op_powW {X : Cx} : OpR X (binaryOp .Pow) (rI CPowW fun i j => .int (i ^ j.toNat)) := opI fun i j _ _ _ _ _ hc q => by
  have b : Builtin.Int.intBits i ≤ i.natAbs.log2 + 1 := by
    unfold Builtin.Int.intBits
    split <;> omega
  refine pow_int hc.1 (Int.le_trans (Int.mul_le_mul_of_nonneg_right ?_ hc.1) hc.2) q
  omega
theorem log_le {i : Int} {n : Nat} (h : i.natAbs < 2 ^ n) : i.natAbs.log2 ≤ n := by
  by_cases e : i.natAbs = 0
  · rw [e]; exact Nat.zero_le _
  · exact Nat.le_of_lt ((Nat.log2_lt e).mpr h)
theorem blend_bound {t b : Int} {L : Nat} (h0 : 0 ≤ t) (hL : t.toNat < L) (hb : 0 ≤ b) (hb2 : b ≤ 40014 * (t + 1) + 2147483648) : b.natAbs ≤ 40014 * L + 2147483648 := by omega
theorem lim_pow : 40014 * LIM + 2147483648 < 2 ^ 1000020 := by unfold LIM; decide +kernel
theorem blend_log {t b : Int} (h0 : 0 ≤ t) (hL : t.toNat < LIM) (hb : 0 ≤ b) (hb2 : b ≤ 40014 * (t + 1) + 2147483648) : (b.natAbs.log2 + 1 : Int) * 5 ≤ 2 ^ 27 := by
  have h3 := log_le (Nat.lt_of_le_of_lt (blend_bound h0 hL hb hb2) lim_pow)
  have h5 : (2 : Int) ^ 27 = 134217728 := by decide
  rw [h5]
  generalize b.natAbs.log2 = z at h3
  clear hL
  omega
/-- a def that lets nothing out -/
theorem FnOk.any {P : Program} {w : World} {K : PySem.W.Frag} {mg : Str → Option Value} {base : Heap} {CX : CXT} {k : Nat} {f : Addr} {fd : FuncData} {ps : List Str} {sp : Sp} (F : FnOk P w K mg base CX0 k f fd ps sp) : FnOk P w K mg base CX k f fd ps sp := by
  refine ⟨F.len, fun A outer s H args us vs Q E hr he hb hv hs => codeAny_mono (F.run A outer s H args us vs Q E hr he hb hv hs) fun r s' hq => ?_⟩
  cases r with
  | error e => exact hq.elim
  | ok fl => cases fl <;> exact hq
theorem canInts : ∀ ns : List Int, PyData.canLayAll0 (ns.map PyData.int) = true ∧ PyData.depthAll (ns.map PyData.int) = 0
  | [] => ⟨by simp [PyData.canLayAll0], by simp [PyData.depthAll]⟩
  | n :: ns => by
    obtain ⟨h1, h2⟩ := canInts ns
    constructor
    · simp [PyData.canLayAll0, PyData.canLay0, h1]
    · simp [PyData.depthAll, PyData.depth, h2]
theorem shapedInts (ns : List Int) : SeqAt.shaped (.list (ns.map PyData.int)) = true := by
  obtain ⟨h1, h2⟩ := canInts ns
  unfold SeqAt.shaped
  simp [PyData.canLay0, PyData.depth, h1, h2]
theorem dpI {K : PySem.W.Frag} {H : Hp} : ∀ ns : List Int, DpAll K H (ns.map V.int) (ns.map PyData.int)
  | [] => .nil
  | n :: ns => .cons (.int n) (dpI ns)
theorem eqv_nil (ns : List Int) : PyData.eqv (.list (ns.map PyData.int)) (.list []) = decide (ns = []) := by
  cases ns <;> simp [PyData.eqv, PyData.eqvAll]
/-! ### promises -/
def spBl (s gr ce : Addr) : Sp := fun vs H Q _ => vs = [.ref s] ∧ ∃ l t ns cs, GoodAt s gr ce l t ns cs H ∧ t.toNat < LIM ∧ ∀ (m : Int) H', 0 ≤ m → H' s = some (.dK (stK l (t + 1) gr ce)) → (∀ a o, H a = some o → a ≠ s → H' a = some o) → Q (.int m) H'
def spDr (s gr ce : Addr) : Sp := fun vs H Q _ => ∃ k : Int, vs = [.ref s, .int k] ∧ 0 < k ∧ k < 2 ^ 200 ∧ GoodD s gr ce H ∧ 0 < budD s H ∧ ∀ (m : Int) H', 0 ≤ m → m < k → GoodD s gr ce H' → budD s H ≤ budD s H' + 1 → budD s H' ≤ budD s H → (∀ a o, H a = some o → a ≠ s → a ≠ gr → H' a = some o) → Q (.int m) H'
def tDrawRest : TS := tSeq (tAsg (tOp (rI (fun _ j => 0 < j) fun i j => .int (i % j)) (tCB (fun xs H Q => (∃ i, xs = [.int i] ∧ Q (.int i) H) ∨ ∃ k, xs = [.bl k] ∧ Q (.int (if k then 1 else 0)) H) (tCons (tDGet (tVar 0) (tC (.str "left"))) tNil)) (tVar 1)) (gName 2))
  (tSeq (sDPut (tVar 0) (tC (.str "left")) (tOp (rI CDivW fun i j => .int (i / j)) (tDGet (tVar 0) (tC (.str "left"))) (tVar 1))) (tRet (tVar 2)))
theorem draw_rest {s gr ce : Addr} {l t k : Int} {ns cs : List Int} {H : Hp} {a2 : Option V} {D : Ends} (G : GoodAt s gr ce l t ns cs H) (k0 : 0 < k) (k1 : k < 2 ^ 200) (q : ∀ m, 0 ≤ m → m < k → D.rt (.int m) (upd H s (.dK (stK (l / k) t gr ce)))) :
    tDrawRest D [some (.ref s), some (.int k), a2] H := by
  have e1 := Int.emod_nonneg l (Int.ne_of_gt k0)
  have e2 := Int.emod_lt_of_pos l k0
  exact ⟨_, rfl, s, .int l, rfl, dg_left G, .inl ⟨l, rfl, _, rfl, _, _, rfl, rfl, k0, _, rfl, s, .int l, rfl, dg_left G, _, rfl, _, _, rfl, rfl, wide_div (b := 200) k0 (by omega) (by decide) (by decide), _, rfl, s, _, rfl, dp_left G, _, rfl, q _ e1 e2⟩⟩
theorem bud_step {L a b : Nat} (h1 : a ≤ b) (h2 : b ≤ a + 1) : L - a ≤ (L - b) + 1 ∧ L - b ≤ L - a := by omega
theorem bud_pos {L a : Nat} (h : 0 < L - a) : a < L := by omega
theorem ite_t {c : Bool} {A B : Prop} (hc : c = true) (h : A) : if c = true then A else B := by rw [if_pos hc]; exact h
theorem ite_f {c : Bool} {A B : Prop} (hc : c = false) (h : B) : if c = true then A else B := by rw [hc, if_neg Bool.false_ne_true]; exact h
end PV
end
section
set_option maxHeartbeats 4000000
/-! PvD2: the draws as the language has them; the beginning. -/
namespace PV
open PySem PySem.Spec PyProof.Rows L2
theorem turnOf_eq {s : Addr} {H H' : Hp} (e : H' s = H s) : turnOf s H' = turnOf s H := by unfold turnOf; rw [e]
/-- what is fixed once the state stands at s -/
def gD (P : Program) (w : World) (K : PySem.W.Frag) (mg : Str → Option Value) (base : Heap) (cad : Nat → Addr) (s gr ce : Addr) : G where
  P := P
  w := w
  K := K
  mg := mg
  base := base
  F := fun a => a = s ∨ a = gr ∨ a = ce
  st := s
  good := GoodD s gr ce
  cad := cad
  bud := budD s
  gob := fun H H' _ h => by unfold budD; rw [turnOf_eq (h s (.inl rfl))]
  gof := fun H H' ⟨hne, l, t, ns, cs, g⟩ h => ⟨hne, l, t, ns, cs, (h s (.inl rfl)).trans g.st, (h gr (.inr (.inl rfl))).trans g.gr, (h ce (.inr (.inr rfl))).trans g.ce, g.l0, g.t0, g.n0, g.c0, g.nl, g.cl⟩
  gff := fun H a ⟨_, l, t, ns, cs, g⟩ h => by
    rcases h with rfl | rfl | rfl
    · exact ⟨_, g.st⟩
    · exact ⟨_, g.gr⟩
    · exact ⟨_, g.ce⟩
section
variable {P : Program} {w : World} {K : PySem.W.Frag} {mg : Str → Option Value} {base : Heap} {cad : Nat → Addr} {s gr ce : Addr} {f : Addr} {fd : FuncData}
theorem drawP_ok {ds : List D} {P : Nat → D → Prop} {E : Nat → Nat → Prop} {m : Nat} (h : (drawP ds).All P E m) : ∃ k, ds = [.sta, .int k] ∧ 0 < k ∧ k < 2 ^ 200 ∧ 0 < m ∧ ∀ d, 0 ≤ d → d < k → ∀ b', m ≤ b' + 1 → b' ≤ m → P b' (.int d) := by
  unfold drawP at h
  split at h
  · rename_i k
    split at h
    · rename_i c
      have c := of_decide_eq_true c
      exact ⟨k, rfl, c.1, c.2, h.1, h.2⟩
    · exact h.elim
  · exact h.elim
theorem fne_draw {Pt : Tab} {wh n : Nat} (hn : n ≠ 0) (F : FnOk P w K mg base CX0 2 f fd ["state", "size_here"] (spDr s gr ce)) (hm : mg "_law_draw" = some (.ref f)) (kp : PySem.W.keepIn K (.ref f) = true) (b : Binds K fd ["state", "size_here"] []) :
    FnE (gD P w K mg base cad s gr ce) (callF Pt wh (n + 1)) (n + 1) 0 "_law_draw" 2 := by
  refine ⟨f, fd, _, hm, kp, b, rfl, FnOk.imp (FnOk.any (F.mono (by omega))) fun vs H Q E h => ?_⟩
  obtain ⟨Z, ds, p, r, a⟩ := h
  have e : callF Pt wh (n + 1) 0 ds = drawP ds := if_neg hn
  rw [e] at a
  obtain ⟨k, rfl, k0, k1, hb, h⟩ := drawP_ok a
  cases r with
  | cons r1 r2 =>
    cases r1
    cases r2 with
    | cons r1 r2 =>
      cases r1
      cases r2
      refine ⟨k, rfl, k0, k1, p.good, hb, fun m H' m0 m1 g' b1 b2 fr => ?_⟩
      have fr' : ∀ a o, H a = some o → ¬ (a = s ∨ a = gr ∨ a = ce) → H' a = some o := fun a o e hf => fr a o e (fun z => hf (.inl z)) fun z => hf (.inr (.inl z))
      have st : Step (gD P w K mg base cad s gr ce) Z H Z H' := ⟨fun _ _ e => e, fun a o e => fr' a o (p.zh a o e) fun z => (by rw [p.zf a z] at e; cases e), fr', fun _ _ e => .inl e, p.zf, g'⟩
      exact h m m0 m1 (budD s H') b1 b2 (.int m) Z H' st rfl (.of (.int m))
end

/-! ### the beginning -/
def g0 (P : Program) (w : World) (K : PySem.W.Frag) (mg : Str → Option Value) (base : Heap) : G where
  P := P
  w := w
  K := K
  mg := mg
  base := base
  F := fun _ => False
  st := 0
  good := fun _ => True
  cad := fun _ => 0
  bud := fun _ => 0
  gob := fun _ _ _ _ => rfl
  gof := fun _ _ _ _ => trivial
  gff := fun _ _ _ h => h.elim
def NG : List Str := ["script", "great", "cell"]
def ckG : Ck := ⟨NG, [], [], [], []⟩
def xAbs : X := .blt .abs (.cons (.var 2) .nil)
def xBig : X := .bin .pow (.int 10) (.int 18)
def xGreat : X := .comp (.nm 2) (.var 0) (.cmp .ge xAbs xBig) (.bin .sub xAbs xBig) [("cell", 2)]
def xCells : X := .comp (.nm 2) (.var 0) .yes xAbs [("cell", 2)]
def absI (i : Int) : Int := if i < 0 then -i else i
def greatL (ns : List Int) : List Int := ns.filterMap fun n => if absI n ≥ 10 ^ 18 then some (absI n - 10 ^ 18) else none
def cellsL (ns : List Int) : List Int := ns.map absI
theorem compL_ints {f : D → T (Option D)} {h : Int → Option Int} (e : ∀ n, f (.int n) = .ret ((h n).map D.int)) : ∀ ns : List Int, compL f (ns.map D.int) = .ret ((ns.filterMap h).map D.int)
  | [] => rfl
  | n :: ns => by
    rw [List.map_cons]
    unfold compL
    rw [e n, ret_bind, compL_ints e ns, ret_bind, List.filterMap_cons]
    cases h n <;> rfl
theorem pow18 : binT .pow (.int 10) (.int 18) = .ret (.int (10 ^ 18)) := by
  show powT (.int 10) (.int 18) = _
  unfold powT
  simp
theorem ev_great {call : Nat → List D → T D} {ns : List Int} {a b : Sl} : ev call xGreat [.val (.scr ns), a, b] = .ret (.new ((greatL ns).map D.int)) := by
  have e : ∀ n : Int, compF (.nm 2) [2] (evs call (.cmp .ge xAbs xBig)).B (evs call (.bin .sub xAbs xBig)).E [.val (.scr ns), a, b] (.int n) = .ret (((if absI n ≥ 10 ^ 18 then some (absI n - 10 ^ 18) else none : Option Int)).map D.int) := fun n => by
    have e1 : (evs call xAbs).E [.val (.scr ns), a, .val (.int n)] = .ret (.int (absI n)) := rfl
    have e2 : (evs call xBig).E [.val (.scr ns), a, .val (.int n)] = .ret (.int (10 ^ 18)) := pow18
    have e3 : (evs call (.cmp .ge xAbs xBig)).B [.val (.scr ns), a, .val (.int n)] = .ret (decide ((10 : Int) ^ 18 ≤ absI n)) := by
      show ((evs call xAbs).E _ >>= fun x => (evs call xBig).E _ >>= fun y => cmpT .ge x y >>= fun c => .ret (.bl c)) >>= toB = _
      rw [e1, ret_bind, e2]
      rfl
    have e4 : (evs call (.bin .sub xAbs xBig)).E [.val (.scr ns), a, .val (.int n)] = .ret (.int (absI n - 10 ^ 18)) := by
      show ((evs call xAbs).E _ >>= fun x => (evs call xBig).E _ >>= fun y => binT .sub x y) = _
      rw [e1, ret_bind, e2]
      rfl
    show ((evs call (.cmp .ge xAbs xBig)).B [.val (.scr ns), a, .val (.int n)] >>= fun k => if k = true then (evs call (.bin .sub xAbs xBig)).E [.val (.scr ns), a, .val (.int n)] >>= fun y => fz y >>= fun y => .ret (some y) else .ret none) = _
    rw [e3, ret_bind]
    by_cases c : (10 : Int) ^ 18 ≤ absI n
    · rw [if_pos (decide_eq_true c), e4, if_pos c]
      rfl
    · rw [if_neg (by simpa using c), if_neg c]
      rfl
  show (noErr (compL (compF (.nm 2) [2] (evs call (.cmp .ge xAbs xBig)).B (evs call (.bin .sub xAbs xBig)).E [.val (.scr ns), a, b]) (ns.map D.int)) >>= fun ys => T.ret (D.new ys)) = _
  rw [compL_ints e ns]
  rfl
theorem ev_cells {call : Nat → List D → T D} {ns : List Int} {a b : Sl} : ev call xCells [.val (.scr ns), a, b] = .ret (.new ((cellsL ns).map D.int)) := by
  have e : ∀ n : Int, compF (.nm 2) [2] (evs call .yes).B (evs call xAbs).E [.val (.scr ns), a, b] (.int n) = .ret ((some (absI n)).map D.int) := fun n => rfl
  show (noErr (compL (compF (.nm 2) [2] (evs call .yes).B (evs call xAbs).E [.val (.scr ns), a, b]) (ns.map D.int)) >>= fun ys => T.ret (D.new ys)) = _
  rw [compL_ints e ns]
  have : ns.filterMap (fun n => some (absI n)) = cellsL ns := by unfold cellsL; rw [List.filterMap_eq_map']
  rw [this]
  rfl
theorem intsD_map : ∀ ns : List Int, intsD (ns.map D.int) = some ns
  | [] => rfl
  | n :: ns => by
    show (intsD (ns.map D.int)).map (n :: ·) = _
    rw [intsD_map ns]
    rfl
theorem absI_nn (i : Int) : 0 ≤ absI i := by unfold absI; split <;> omega
theorem great_nn {ns : List Int} : ∀ n ∈ greatL ns, 0 ≤ n := fun n h => by
  obtain ⟨m, _, e⟩ := List.mem_filterMap.mp h
  split at e
  · cases e; omega
  · cases e
theorem cells_nn {ns : List Int} : ∀ n ∈ cellsL ns, 0 ≤ n := fun n h => by
  obtain ⟨m, _, e⟩ := List.mem_map.mp h
  rw [← e]
  exact absI_nn m
theorem great_len (ns : List Int) : (greatL ns).length ≤ ns.length := List.length_filterMap_le ..
theorem cells_len (ns : List Int) : (cellsL ns).length = ns.length := List.length_map ..
theorem merge_st {gr ce : Addr} : mergeK [] (stK 0 0 gr ce) = stK 0 0 gr ce := by
  have h1 : ¬ (Sum.inr "great" : Key) = .inr "cells" := kne (by decide +kernel)
  have h2 : ¬ (Sum.inr "great" : Key) = .inr "left" := kne (by decide +kernel)
  have h3 : ¬ (Sum.inr "great" : Key) = .inr "turn" := kne (by decide +kernel)
  have h4 : ¬ (Sum.inr "cells" : Key) = .inr "left" := kne (by decide +kernel)
  have h5 : ¬ (Sum.inr "cells" : Key) = .inr "turn" := kne (by decide +kernel)
  have h6 : ¬ (Sum.inr "left" : Key) = .inr "turn" := kne (by decide +kernel)
  simp only [mergeK, stK, List.foldl_cons, List.foldl_nil, putK, List.any_nil, List.any_cons, h1, h2, h3, h4, h5, h6, decide_false, Bool.or_false, Bool.false_or, if_neg Bool.false_ne_true, List.nil_append, List.cons_append]
def spBg (K : PySem.W.Frag) : Sp := fun vs H Q _ => ∃ a ns, vs = [.ref a] ∧ SqL K H a (ns.map V.int) ∧ ns.length ≤ 63 ∧
  ∀ s gr ce H', gr ≠ ce → GoodAt s gr ce 0 0 (greatL ns) (cellsL ns) H' → H s = none → H gr = none → H ce = none → (∀ b o, H b = some o → H' b = some o) → Q (.ref s) H'
end PV
end
section
set_option maxHeartbeats 4000000
/-! PvJ: the law's def. -/
namespace PV
open PySem PySem.Spec PyProof.Rows L2
section
variable {P : Program} {w : World} {K : PySem.W.Frag} {mg : Str → Option Value} {base : Heap} {cad : Nat → Addr}
def canS (P : Program) (w : World) (K : PySem.W.Frag) (mg : Str → Option Value) (base : Heap) (cad : Nat → Addr) (W : Nat → Hp → Prop) (f : Env → T Fl) : TS := fun Dn σ H =>
  ∃ (s gr ce : Addr) (Z0 H0 : Hp) (r : Env) (Z : Hp), SCfg (gD P w K mg base cad s gr ce) Z0 H0 r Z σ H ∧ (f r).All (PostF (gD P w K mg base cad s gr ce) Z0 H0 Z Dn) (PostE (gD P w K mg base cad s gr ce) Z0 H0 W) ((gD P w K mg base cad s gr ce).bud H)
theorem rest_can {C : Cx} {W : Nat → Hp → Prop} {sts : List Stmt} {f : Env → T Fl} (h : ∀ s gr ce Z0 H0, SSs (gD P w K mg base cad s gr ce) C W Z0 H0 sts f) : PSs C sts (canS P w K mg base cad W f) := by
  refine ⟨fun pins s σ H D I ⟨s', gr, ce, Z0, H0, r, Z, c, a⟩ => ?_⟩
  obtain ⟨t, h1, h2⟩ := h s' gr ce Z0 H0
  exact h1.run pins s σ H D I (h2 r Z σ H D c a)
theorem start_set {N : List Str} {x y : V} (h : 2 ≤ N.length) : (L2.start N [x]).set 1 (some y) = L2.start N [x, y] := by
  match N, h with
  | _ :: _ :: N, _ =>
    unfold L2.start
    have e1 : (N.length + 1 + 1) - 1 = N.length + 1 := rfl
    have e2 : (N.length + 1 + 1) - 2 = N.length := rfl
    simp only [List.length_cons, List.map_cons, List.map_nil, List.length_nil, e1, e2, List.replicate_succ, List.cons_append, List.nil_append, List.set_cons_succ, List.set_cons_zero]
  | [_], h => simp at h
  | [], h => simp at h
theorem sub_toNat0 (L : Nat) : L - (0 : Int).toNat = L := Nat.sub_zero L
def spLaw (K : PySem.W.Frag) : Sp := fun vs H Q _ => ∃ (a : Addr) (ns : List Int), vs = [.ref a] ∧ SqL K H a (ns.map V.int) ∧ ns.length ≤ 63 ∧ ∀ H', Q (.bl true) H'
/-- the draws that are left at the start -/
theorem law_ok {ck : Ck} {n wh : Nat} {Pt : Tab} {x : Str} {st s0 : Stmt} {rest : List Stmt} {body : S} {f : Addr} {fd : FuncData} (F : FunD K x x (defArgs st) (defBody st) (defScope st) [] [] f fd) (S : FnScope ck.N ["script"] (defScope st)) (hN : 2 ≤ ck.N.length)
    (fa : ∀ s gr ce, Facts (gD P w K mg base cad s gr ce) ck (callF Pt wh n) n) (hb : defBody st = s0 :: rest)
    (h0 : ∀ (cdv : Value) (A : Around) (outer : List PySem.Env) (s : Shared) (H : Hp) (E : XK), Room n (A.deeper (envOfC x (defScope st) s.heap.objs.size f cdv)) → PS (cxOf CX0 P w K mg base ck.N x (defScope st) f cdv A outer s H E).nox s0 (tAsg (tCall (spBg K) [] E0 (tCons (tVar 0) tNil)) (gName 1)))
    (hcls : ck.cls = []) (hc : chkB ck body (defScope st) rest = true)
    (hT : ∀ ns : List Int, ns.length ≤ 63 → (ex (callF Pt wh n) wh body (startE ck.N [.scr ns, .sta])).All (fun _ fl => fl = .rt (.bl true)) (fun _ _ => False) LIM) :
    FnOk P w K mg base CX0 (n + 1) f fd ["script"] (spLaw K) := by
  refine F.ok S (fun vs H Q E h => by obtain ⟨a, ns, rfl, _⟩ := h; rfl) (fun cdv A outer s H vs Q E hr h => ?_)
  obtain ⟨a, ns, rfl, hS, hl, q⟩ := h
  have hrest : PSs (cxOf CX0 P w K mg base ck.N x (defScope st) f cdv A outer s H E).nox rest (canS P w K mg base cad (fun _ _ => False) (ex (callF Pt wh n) wh body)) := by
    refine rest_can fun s' gr ce Z0 H0 => ?_
    have c : CtxD (gD P w K mg base cad s' gr ce) ck (defScope st) (fun _ _ => False) n (cxOf CX0 P w K mg base ck.N x (defScope st) f cdv A outer s H E).nox :=
      ⟨⟨rfl, rfl, rfl, rfl, rfl, rfl, rfl, rfl, hr, takes0.imp fun _ _ _ _ ⟨_, _, _, h⟩ => h.elim⟩, S.kind, PassesOwn.never, fun _ => rfl, fun k x h => by rw [hcls] at h; cases h⟩
    exact (soundS (wh := wh) (Z0 := Z0) (H0 := H0) c (fa s' gr ce) body).B _ hc
  rw [hb]
  refine ⟨_, PSs.nox (pss_cons (h0 cdv A outer s H E hr) hrest), ?_⟩
  have g0 : (L2.start ck.N [V.ref a])[0]? = some (some (.ref a)) := by unfold L2.start; rfl
  refine ⟨_, g0, a, ns, rfl, hS, hl, fun s' gr ce H' hne G n1 n2 n3 fr => ?_⟩
  refine ⟨s', gr, ce, H, H', startE ck.N [.scr ns, .sta], H, ?_, ?_⟩
  · rw [start_set hN]
    have pre : Pre (gD P w K mg base cad s' gr ce) H H' := ⟨fr, fun b hb => by rcases hb with rfl | rfl | rfl <;> assumption, hne, _, _, _, _, G⟩
    exact start_cfg pre (.cons (.scr hS hl) (.cons .sta .nil)) hN
  · have eb : (gD P w K mg base cad s' gr ce).bud H' = LIM := by
      show budD s' H' = LIM
      rw [GoodAt.bud G]
      exact sub_toNat0 LIM
    rw [eb]
    refine All.mono (hT ns hl) (fun fl e => ?_) fun _ e => e.elim
    subst e
    intro v Z' H2 _ _ r
    cases r
    exact q H2
end
/-- a def called by keywords alone -/
theorem bindsK {K : PySem.W.Frag} {x qual : Str} {params : Arguments} {body : List Stmt} {scope : Scope} {kws : List (Str × V)} {f : Addr} {fd : FuncData} {ps ks : List Str} {perm : List Nat} (F : FunD K x qual params body scope [] kws f fd)
    (h : ∀ (kV doc pm : Value) (an : Option Addr) (cdv ct : Value) (ws ys : List Value), ws.length = ks.length → permL perm ws = some ys → bindArgs (PySem.W.fnOf x qual params body scope .none kV doc pm an cdv ct) ⟨[], ks.zip ws⟩ = pure (ps.zip ys)) :
    ∀ (s : Shared) (ws ys : List Value), K.In s.heap → ws.length = ks.length → permL perm ws = some ys → BindsTo s fd ⟨[], ks.zip ws⟩ (ps.zip ys) := by
  obtain ⟨oc, od, dV, kV, doc, pm, an, cdv, ct, osl, rfl, lk, hcd, hD, hK⟩ := F.ex
  rcases hD with ⟨_, rfl⟩ | ⟨e, _⟩
  · exact fun s ws ys _ hl hy => .of_eq (h kV doc pm an cdv ct ws ys hl hy)
  · exact absurd rfl e
end PV
end
section
set_option maxHeartbeats 4000000
/-! PvC: how many numbers a run draws at most. -/
namespace PV
open PySem
namespace T
/-- whatever is drawn -/
def All0 {a : Type} (P : a → Prop) (E : Nat → Prop) : T a → Prop
  | .ret x => P x
  | .err c => E c
  | .bad => False
  | .draw n k => ∀ d, 0 ≤ d → d < n → All0 P E (k d)
/-- what holds of the answers there are -/
def Ans {a : Type} (P : a → Prop) : T a → Prop
  | .ret x => P x
  | .err _ => True
  | .bad => True
  | .draw _ k => ∀ d, Ans P (k d)
/-- at most n draws -/
def le {a : Type} : T a → Nat → Prop
  | .draw _ _, 0 => False
  | .draw _ k, n + 1 => ∀ d, le (k d) n
  | _, _ => True
end T
open T
section
variable {a b : Type}
theorem le_mono {t : T a} {n m : Nat} (h : le t n) (hm : n ≤ m) : le t m := by
  induction t generalizing n m with
  | ret x => cases m <;> trivial
  | err c => cases m <;> trivial
  | bad => cases m <;> trivial
  | draw k f ih =>
    cases n with
    | zero => exact h.elim
    | succ n =>
      cases m with
      | zero => omega
      | succ m => exact fun d => ih d (h d) (by omega)
theorem le_bindA {t : T a} {f : a → T b} {P : a → Prop} {n m : Nat} (h : le t n) (hA : t.Ans P) (hf : ∀ x, P x → le (f x) m) : le (t >>= f) (n + m) := by
  show le (T.bind t f) (n + m)
  induction t generalizing n with
  | ret x => exact le_mono (hf x hA) (by omega)
  | err c => show le (T.err c) _; cases n + m <;> trivial
  | bad => show le T.bad _; cases n + m <;> trivial
  | draw k g ih =>
    cases n with
    | zero => exact h.elim
    | succ n =>
      have e : n + 1 + m = (n + m) + 1 := by omega
      rw [e]
      exact fun d => ih d (h d) (hA d)
theorem ans_triv {t : T a} : t.Ans fun _ => True := by
  induction t with
  | ret x => trivial
  | err c => trivial
  | bad => trivial
  | draw k g ih => exact fun d => ih d
theorem ans_mono {t : T a} {P Q : a → Prop} (h : t.Ans P) (hq : ∀ x, P x → Q x) : t.Ans Q := by
  induction t with
  | ret x => exact hq x h
  | err c => trivial
  | bad => trivial
  | draw k g ih => exact fun d => ih d (h d)
theorem ans_bind {t : T a} {f : a → T b} {P : b → Prop} (h : ∀ x, (f x).Ans P) : (t >>= f).Ans P := by
  show (T.bind t f).Ans P
  induction t with
  | ret x => exact h x
  | err c => trivial
  | bad => trivial
  | draw k g ih => exact fun d => ih d
theorem le_bind {t : T a} {f : a → T b} {n m : Nat} (h : le t n) (hf : ∀ x, le (f x) m) : le (t >>= f) (n + m) := le_bindA h ans_triv fun x _ => hf x
theorem le_bind0 {t : T a} {f : a → T b} {n : Nat} (h : le t n) (hf : ∀ x, le (f x) 0) : le (t >>= f) n := le_bind (m := 0) h hf
theorem le_ret {x : a} {n : Nat} : le (T.ret x) n := by cases n <;> trivial
theorem le_err {c : Nat} {n : Nat} : le (T.err c : T a) n := by cases n <;> trivial
theorem le_bad {n : Nat} : le (T.bad : T a) n := by cases n <;> trivial
theorem le_ofO {o : Option a} {n : Nat} : le (ofO o) n := by cases o <;> first | exact le_ret | exact le_bad
theorem le_noErr {t : T a} {n : Nat} (h : le t n) : le (noErr t) n := by
  induction t generalizing n with
  | ret x => exact le_ret
  | err c => exact le_bad
  | bad => exact le_bad
  | draw k f ih =>
    cases n with
    | zero => exact h.elim
    | succ n => exact fun d => ih d (h d)
/-- joined -/
theorem all_of {P : a → Prop} {E : Nat → Prop} {t : T a} {n m : Nat} (h : t.All0 P E) (hl : le t n) (hm : n ≤ m) : t.All (fun _ x => P x) (fun _ c => E c) m := by
  induction t generalizing n m with
  | ret x => exact h
  | err c => exact h
  | bad => exact h
  | draw k f ih =>
    cases n with
    | zero => exact hl.elim
    | succ n => exact ⟨by omega, fun d h0 h1 m' h2 h3 => ih d (h d h0 h1) (hl d) (by omega)⟩
theorem all0_bind {P : b → Prop} {E : Nat → Prop} {f : a → T b} {t : T a} : (t >>= f).All0 P E ↔ t.All0 (fun x => (f x).All0 P E) E := by
  show (T.bind t f).All0 P E ↔ _
  induction t with
  | ret x => exact Iff.rfl
  | err c => exact Iff.rfl
  | bad => exact Iff.rfl
  | draw n k ih => exact ⟨fun h d h0 h1 => (ih d).mp (h d h0 h1), fun h d h0 h1 => (ih d).mpr (h d h0 h1)⟩
theorem All0.mono {P Q : a → Prop} {E F : Nat → Prop} {t : T a} (h : t.All0 P E) (hp : ∀ x, P x → Q x) (he : ∀ c, E c → F c) : t.All0 Q F := by
  induction t with
  | ret x => exact hp x h
  | err c => exact he c h
  | bad => exact h
  | draw n k ih => exact fun d h0 h1 => ih d (h d h0 h1)
end

/-! ### what draws nothing -/
theorem le_deq {x y : D} {n : Nat} : le (deq x y) n := by unfold deq; split <;> first | exact le_ret | exact le_bad
theorem le_bin {op : BOp} {x y : D} {n : Nat} : le (binT op x y) n := by
  cases op
  · show le (addT x y) n
    unfold addT lenIf
    repeat' split
    all_goals first | exact le_ret | exact le_bad
  · show le (subT x y) n
    unfold subT
    split <;> first | exact le_ret | exact le_bad
  · show le (mulT x y) n
    unfold mulT
    repeat' split
    all_goals first | exact le_ret | exact le_bad
  · show le (fdivT x y) n
    unfold fdivT
    repeat' split
    all_goals first | exact le_ret | exact le_bad
  · show le (modT x y) n
    unfold modT
    repeat' split
    all_goals first | exact le_ret | exact le_bad
  · show le (powT x y) n
    unfold powT
    repeat' split
    all_goals first | exact le_ret | exact le_bad
theorem le_isT {x y : D} {n : Nat} : le (isT x y) n := by
  unfold isT isNon
  repeat' split
  all_goals first | exact le_ret | exact le_bad
theorem le_innT {x y : D} {n : Nat} : le (innT x y) n := by
  unfold innT
  repeat' split
  all_goals first | exact le_ret | exact le_bad
theorem le_cmp {op : COp} {x y : D} {n : Nat} : le (cmpT op x y) n := by
  cases op
  · show le (ltT x y) n
    unfold ltT
    repeat' split
    all_goals first | exact le_ret | exact le_bad
  · show le (leT x y) n
    unfold leT
    split <;> first | exact le_ret | exact le_bad
  · show le (gtT x y) n
    unfold gtT
    split <;> first | exact le_ret | exact le_bad
  · show le (geT x y) n
    unfold geT
    split <;> first | exact le_ret | exact le_bad
  · exact le_deq
  · exact le_bind0 le_deq fun _ => le_ret
  · exact le_isT
  · exact le_bind0 le_isT fun _ => le_ret
  · exact le_innT
  · exact le_bind0 le_innT fun _ => le_ret
theorem le_idx {x y : D} {n : Nat} : le (idxT x y) n := by
  unfold idxT
  split <;> first | exact le_ofO | exact le_bad
theorem le_slc {x : D} {l h : Option Int} {n : Nat} : le (slcT x l h) n := by
  unfold slcT
  split <;> first | exact le_ret | exact le_bad
theorem le_isk {k : D → Option Bool} {ds : List D} {n : Nat} : le (isKind k ds) n := by
  unfold isKind
  repeat' split
  all_goals first | exact le_ret | exact le_bad
theorem le_absB {ds : List D} {n : Nat} : le (absB ds) n := by
  unfold absB
  repeat' split
  all_goals first | exact le_ret | exact le_bad
theorem le_maxB {ds : List D} {n : Nat} : le (maxB ds) n := by
  unfold maxB
  repeat' split
  all_goals first | exact le_ret | exact le_bad
theorem le_minB {ds : List D} {n : Nat} : le (minB ds) n := by
  unfold minB
  repeat' split
  all_goals first | exact le_ret | exact le_bad
theorem le_lenB {ds : List D} {n : Nat} : le (lenB ds) n := by
  unfold lenB
  repeat' split
  all_goals first | exact le_ret | exact le_bad
theorem le_sumB {ds : List D} {n : Nat} : le (sumB ds) n := by
  unfold sumB
  repeat' split
  all_goals first | exact le_ret | exact le_bad
theorem le_allB {ds : List D} {n : Nat} : le (allB ds) n := by
  unfold allB
  repeat' split
  all_goals first | exact le_ret | exact le_bad
theorem le_anyB {ds : List D} {n : Nat} : le (anyB ds) n := by
  unfold anyB
  repeat' split
  all_goals first | exact le_ret | exact le_bad
theorem le_sortedB {ds : List D} {n : Nat} : le (sortedB ds) n := by
  unfold sortedB
  repeat' split
  all_goals first | exact le_ret | exact le_bad
theorem le_listB {ds : List D} {n : Nat} : le (listB ds) n := by
  unfold listB
  repeat' split
  all_goals first | exact le_ret | exact le_bad
theorem le_tupleB {ds : List D} {n : Nat} : le (tupleB ds) n := by
  unfold tupleB
  repeat' split
  all_goals first | exact le_ret | exact le_bad
theorem le_intB {ds : List D} {n : Nat} : le (intB ds) n := by
  unfold intB
  repeat' split
  all_goals first | exact le_ret | exact le_bad
theorem le_blt {f : Blt} {ds : List D} {n : Nat} : le (bltT f ds) n := by
  cases f <;> first
    | exact le_isk
    | exact le_absB
    | exact le_maxB
    | exact le_minB
    | exact le_lenB
    | exact le_sumB
    | exact le_allB
    | exact le_anyB
    | exact le_sortedB
    | exact le_listB
    | exact le_tupleB
    | exact le_intB
theorem le_fz {d : D} {n : Nat} : le (fz d) n := by
  unfold fz
  split <;> first | exact le_ret | exact le_bad
theorem le_bindTg {tg : Tg} {d : D} {r : Env} {n : Nat} : le (bindTg tg d r) n := by
  unfold bindTg
  split <;> first | exact le_ret | exact le_ofO | exact le_bad
theorem le_getV {r : Env} {i : Nat} {n : Nat} : le (getV r i) n := by
  unfold getV
  split <;> first | exact le_ret | exact le_bad
theorem le_toB {d : D} {n : Nat} : le (toB d) n := by
  unfold toB
  split <;> first | exact le_ret | exact le_bad
theorem le_rngI {i j : Int} {n : Nat} : le (rngI i j) n := by
  unfold rngI
  split <;> first | exact le_ret | exact le_bad
theorem ans_rngI {i j : Int} : (rngI i j).Ans fun ds => ds.length ≤ lim := by
  unfold rngI
  split
  · rename_i h
    have h := of_decide_eq_true h
    show ((List.range (j - i).toNat).map _).length ≤ lim
    rw [List.length_map, List.length_range]
    exact h.2.2.2.2
  · trivial

/-! ### what an expression costs -/
section
variable (cf : Nat → Nat)
def bX : X → Bool
  | .rng1 _ => true | .rng2 _ _ => true | .cap _ => true | _ => false
def cX : X → Nat
  | .bin _ a b => cX a + cX b
  | .neg a => cX a
  | .cmp _ a b => cX a + cX b
  | .chain _ _ a b c => cX a + (cX b + cX c)
  | .and a b => cX a + cX b
  | .or a b => cX a + cX b
  | .not a => cX a
  | .ite t a b => cX t + (cX a + cX b)
  | .tup as => cX as
  | .lst as => cX as
  | .cons a as => cX a + cX as
  | .idx a i => cX a + cX i
  | .slc a l h => cX a + (cX l + cX h)
  | .part a => cX a
  | .call f as => cX as + cf f
  | .callK f _ as => cX as + cf f
  | .blt _ as => cX as
  | .isk _ a => cX a
  | .comp _ it cond elt _ => cX it + lim * (cX cond + cX elt)
  | .cap a => cX a
  | .rng1 a => cX a
  | .rng2 a b => cX a + cX b
  | .zip a b => cX a + cX b
  | .enum a => cX a
  | _ => 0
def okX : X → Bool
  | .bin _ a b => okX a && okX b
  | .neg a => okX a
  | .cmp _ a b => okX a && okX b
  | .chain _ _ a b c => okX a && (okX b && okX c)
  | .and a b => okX a && okX b
  | .or a b => okX a && okX b
  | .not a => okX a
  | .ite t a b => okX t && (okX a && okX b)
  | .tup as => okX as
  | .lst as => okX as
  | .cons a as => okX a && okX as
  | .idx a i => okX a && okX i
  | .slc a l h => okX a && (okX l && okX h)
  | .part a => okX a
  | .call _ as => okX as
  | .callK _ _ as => okX as
  | .blt _ as => okX as
  | .isk _ a => okX a
  | .comp _ it cond elt _ => okX it && (okX cond && okX elt) && (bX it || (cX cf cond + cX cf elt == 0))
  | .cap a => okX a
  | .rng1 a => okX a
  | .rng2 a b => okX a && okX b
  | .zip a b => okX a && okX b
  | .enum a => okX a
  | _ => true
end
section
variable {cf : Nat → Nat} {call : Nat → List D → T D}
structure LeX (s : Sx) (n : Nat) : Prop where
  E : ∀ r, le (s.E r) n
  B : ∀ r, le (s.B r) n
  A : ∀ r, le (s.A r) n
  R : ∀ r, le (s.R r) n
  O : ∀ r, le (s.O r) n
  I : ∀ r, le (s.I r) n
theorem lex_ofE {e : Env → T D} {n : Nat} (h : ∀ r, le (e r) n) : LeX (ofE e) n :=
  ⟨h, fun r => le_bind0 (h r) fun _ => le_toB, fun _ => le_bad, fun _ => le_bad, fun _ => le_bad, fun r => le_bind0 (h r) fun _ => le_ofO⟩
theorem le_compL {f : D → T (Option D)} {n : Nat} (h : ∀ d, le (f d) n) : ∀ ds : List D, le (compL f ds) (ds.length * n)
  | [] => le_ret
  | d :: ds => by
    unfold compL
    rw [List.length_cons, Nat.succ_mul, Nat.add_comm]
    exact le_bind (h d) fun o => le_bind0 (le_compL h ds) fun _ => le_ret
theorem ans_bX {it : X} (h : bX it = true) (r : Env) : ((evs call it).I r).Ans fun ds => ds.length ≤ lim := by
  cases it <;> first
    | exact (Bool.false_ne_true h).elim
    | skip
  · refine ans_bind fun ds => ?_
    split
    · assumption
    · trivial
  · refine ans_bind fun x => ?_
    unfold rng1T
    split
    · exact ans_rngI
    · trivial
  · refine ans_bind fun x => ans_bind fun y => ?_
    unfold rng2T
    split
    · exact ans_rngI
    · trivial
theorem leX (hc : ∀ f ds, le (call f ds) (cf f)) : ∀ x : X, okX cf x = true → LeX (evs call x) (cX cf x) := by
  intro x
  induction x with
  | non => exact fun _ => lex_ofE fun _ => le_ret
  | bl b => exact fun _ => lex_ofE fun _ => le_ret
  | int i => exact fun _ => lex_ofE fun _ => le_ret
  | str x => exact fun _ => lex_ofE fun _ => le_ret
  | var i => exact fun _ => lex_ofE fun _ => le_getV
  | con x i => exact fun _ => lex_ofE fun _ => le_ret
  | bin op a b iha ihb =>
    intro h
    simp only [okX, Bool.and_eq_true] at h
    exact lex_ofE fun r => le_bind ((iha h.1).E r) fun _ => le_bind0 ((ihb h.2).E r) fun _ => le_bin
  | neg a ih =>
    intro h
    exact lex_ofE fun r => le_bind0 ((ih h).E r) fun x => by unfold negT; split <;> first | exact le_ret | exact le_bad
  | cmp op a b iha ihb =>
    intro h
    simp only [okX, Bool.and_eq_true] at h
    exact lex_ofE fun r => le_bind ((iha h.1).E r) fun _ => le_bind0 ((ihb h.2).E r) fun _ => le_bind0 le_cmp fun _ => le_ret
  | chain o p a b c iha ihb ihc =>
    intro h
    simp only [okX, Bool.and_eq_true] at h
    refine lex_ofE fun r => le_bind ((iha h.1).E r) fun x => le_bind ((ihb h.2.1).E r) fun y => ?_
    refine le_mono (n := 0 + cX cf c) (le_bind le_cmp fun k => ?_) (by omega)
    split
    · exact le_bind0 ((ihc h.2.2).E r) fun z => le_bind0 le_cmp fun _ => le_ret
    · exact le_ret
  | and a b iha ihb =>
    intro h
    simp only [okX, Bool.and_eq_true] at h
    refine ⟨fun r => le_bind ((iha h.1).E r) fun x => ?_, fun r => le_bind ((iha h.1).B r) fun k => ?_, fun _ => le_bad, fun _ => le_bad, fun _ => le_bad, fun _ => le_bad⟩
    · unfold andT
      split <;> first | exact (ihb h.2).E r | exact le_ret | exact le_bad
    · split <;> first | exact (ihb h.2).B r | exact le_ret
  | or a b iha ihb =>
    intro h
    simp only [okX, Bool.and_eq_true] at h
    refine ⟨fun r => le_bind ((iha h.1).E r) fun x => ?_, fun r => le_bind ((iha h.1).B r) fun k => ?_, fun _ => le_bad, fun _ => le_bad, fun _ => le_bad, fun _ => le_bad⟩
    · unfold orT
      split <;> first | exact (ihb h.2).E r | exact le_ret | exact le_bad
    · split <;> first | exact (ihb h.2).B r | exact le_ret
  | not a ih =>
    intro h
    refine ⟨fun r => le_bind0 ((ih h).E r) fun x => ?_, fun r => le_bind0 ((ih h).B r) fun _ => le_ret, fun _ => le_bad, fun _ => le_bad, fun _ => le_bad, fun _ => le_bad⟩
    unfold notT
    split <;> first | exact le_ret | exact le_bad
  | ite t a b iht iha ihb =>
    intro h
    simp only [okX, Bool.and_eq_true] at h
    refine lex_ofE fun r => le_bind ((iht h.1).B r) fun k => ?_
    split
    · exact le_mono ((iha h.2.1).E r) (by omega)
    · exact le_mono ((ihb h.2.2).E r) (by omega)
  | tup as ih =>
    intro h
    exact lex_ofE fun r => le_bind0 ((ih h).A r) fun ds => by unfold lenT; split <;> first | exact le_ret | exact le_bad
  | lst as ih =>
    intro h
    exact lex_ofE fun r => le_bind0 ((ih h).A r) fun ds => by unfold lenT; split <;> first | exact le_ret | exact le_bad
  | nil => exact fun _ => ⟨fun _ => le_bad, fun _ => le_bad, fun _ => le_ret, fun _ => le_ret, fun _ => le_bad, fun _ => le_bad⟩
  | cons a as iha ihs =>
    intro h
    simp only [okX, Bool.and_eq_true] at h
    exact ⟨fun _ => le_bad, fun _ => le_bad, fun r => le_bind ((iha h.1).E r) fun x => le_mono (n := 0 + cX cf as) (le_bind le_fz fun _ => le_bind0 ((ihs h.2).A r) fun _ => le_ret) (by omega), fun r => le_bind ((iha h.1).E r) fun x => le_bind0 ((ihs h.2).R r) fun _ => le_ret, fun _ => le_bad, fun _ => le_bad⟩
  | idx a i iha ihi =>
    intro h
    simp only [okX, Bool.and_eq_true] at h
    exact lex_ofE fun r => le_bind ((iha h.1).E r) fun _ => le_bind0 ((ihi h.2).E r) fun _ => le_idx
  | slc a l h iha ihl ihh =>
    intro hh
    simp only [okX, Bool.and_eq_true] at hh
    exact lex_ofE fun r => le_bind ((iha hh.1).E r) fun _ => le_bind ((ihl hh.2.1).O r) fun _ => le_bind0 ((ihh hh.2.2).O r) fun _ => le_slc
  | part a ih =>
    intro h
    exact ⟨fun _ => le_bad, fun _ => le_bad, fun _ => le_bad, fun _ => le_bad, fun r => le_bind0 ((ih h).E r) fun x => by unfold partT; split <;> first | exact le_ret | exact le_bad, fun _ => le_bad⟩
  | nopart => exact fun _ => ⟨fun _ => le_bad, fun _ => le_bad, fun _ => le_bad, fun _ => le_bad, fun _ => le_ret, fun _ => le_bad⟩
  | call f as ih =>
    intro h
    exact lex_ofE fun r => le_bind ((ih h).A r) fun ds => hc f ds
  | callK f perm as ih =>
    intro h
    exact lex_ofE fun r => le_bind ((ih h).A r) fun ds => le_mono (n := 0 + cf f) (le_bind le_ofO fun ds => hc f ds) (by omega)
  | blt f as ih =>
    intro h
    exact lex_ofE fun r => le_bind0 ((ih h).R r) fun _ => le_blt
  | isk f a ih =>
    intro h
    exact lex_ofE fun r => le_bind0 ((ih h).E r) fun _ => le_blt
  | comp tg it cond elt own ihi ihc ihe =>
    intro h
    simp only [okX, Bool.and_eq_true, Bool.or_eq_true, beq_iff_eq] at h
    obtain ⟨⟨h1, h2, h3⟩, h4⟩ := h
    have turn : ∀ r d, le (compF tg (own.map (·.2)) (evs call cond).B (evs call elt).E r d) (cX cf cond + cX cf elt) := fun r d => by
      refine le_mono (n := 0 + (cX cf cond + cX cf elt)) (le_bind le_bindTg fun r2 => le_bind ((ihc h2).B r2) fun k => ?_) (by omega)
      split
      · exact le_bind0 ((ihe h3).E r2) fun y => le_bind0 le_fz fun _ => le_ret
      · exact le_ret
    refine lex_ofE fun r => ?_
    show le (_ >>= _) (cX cf it + lim * (cX cf cond + cX cf elt))
    rcases h4 with h4 | h4
    · refine le_bindA ((ihi h1).I r) (ans_bX h4 r) fun ds hl => ?_
      refine le_bind0 (le_noErr (le_mono (le_compL (turn r) ds) ?_)) fun _ => le_ret
      exact Nat.mul_le_mul_right _ hl
    · refine le_bind ((ihi h1).I r) fun ds => ?_
      refine le_bind0 (le_noErr (le_mono (le_compL (turn r) ds) ?_)) fun _ => le_ret
      rw [h4]
      simp
  | yes => exact fun _ => ⟨fun _ => le_bad, fun _ => le_ret, fun _ => le_bad, fun _ => le_bad, fun _ => le_bad, fun _ => le_bad⟩
  | cap a ih =>
    intro h
    refine ⟨fun _ => le_bad, fun _ => le_bad, fun _ => le_bad, fun _ => le_bad, fun _ => le_bad, fun r => le_bind0 ((ih h).I r) fun ds => ?_⟩
    split <;> first | exact le_ret | exact le_bad
  | rng1 a ih =>
    intro h
    refine ⟨fun _ => le_bad, fun _ => le_bad, fun _ => le_bad, fun _ => le_bad, fun _ => le_bad, fun r => le_bind0 ((ih h).E r) fun x => ?_⟩
    unfold rng1T
    split <;> first | exact le_rngI | exact le_bad
  | rng2 a b iha ihb =>
    intro h
    simp only [okX, Bool.and_eq_true] at h
    refine ⟨fun _ => le_bad, fun _ => le_bad, fun _ => le_bad, fun _ => le_bad, fun _ => le_bad, fun r => le_bind ((iha h.1).E r) fun x => le_bind0 ((ihb h.2).E r) fun y => ?_⟩
    unfold rng2T
    split <;> first | exact le_rngI | exact le_bad
  | zip a b iha ihb =>
    intro h
    simp only [okX, Bool.and_eq_true] at h
    exact ⟨fun _ => le_bad, fun _ => le_bad, fun _ => le_bad, fun _ => le_bad, fun _ => le_bad, fun r => le_bind ((iha h.1).E r) fun x => le_bind0 ((ihb h.2).E r) fun y => le_ofO⟩
  | enum a ih =>
    intro h
    exact ⟨fun _ => le_bad, fun _ => le_bad, fun _ => le_bad, fun _ => le_bad, fun _ => le_bad, fun r => le_bind0 ((ih h).E r) fun x => le_ofO⟩
end

/-! ### statements -/
section
variable (cf : Nat → Nat) (wh : Nat)
def cS : S → Nat
  | .cons s r => cS s + cS r
  | .asg _ e => cX cf e
  | .asgF _ e => cX cf e
  | .asgT _ e => cX cf e
  | .par _ es => cX cf es
  | .expr e => cX cf e
  | .app _ e => cX cf e
  | .sset _ ix e => cX cf e + cX cf ix
  | .iff t a b => cX cf t + (cS a + cS b)
  | .for_ _ it body => cX cf it + lim * cS body
  | .while_ t body => wh * (cX cf t + cS body)
  | .ret e => cX cf e
  | _ => 0
def okS : S → Bool
  | .cons s r => okS s && okS r
  | .asg _ e => okX cf e
  | .asgF _ e => okX cf e
  | .asgT _ e => okX cf e
  | .par _ es => okX cf es
  | .expr e => okX cf e
  | .app _ e => okX cf e
  | .sset _ ix e => okX cf e && okX cf ix
  | .iff t a b => okX cf t && (okS a && okS b)
  | .for_ _ it body => okX cf it && okS body && (bX it || (cS cf wh body == 0))
  | .while_ t body => okX cf t && okS body
  | .ret e => okX cf e
  | _ => true
end
section
variable {cf : Nat → Nat} {wh : Nat} {call : Nat → List D → T D}
theorem le_forL {set : D → Env → T Env} {body : Env → T Fl} {n : Nat} (h0 : ∀ d r, le (set d r) 0) (h : ∀ r, le (body r) n) : ∀ (ds : List D) (r : Env), le (forL set body ds r) (ds.length * n)
  | [], r => le_ret
  | d :: ds, r => by
    unfold forL
    rw [List.length_cons, Nat.succ_mul, Nat.add_comm]
    refine le_mono (n := 0 + (n + ds.length * n)) (le_bind (h0 d r) fun r1 => le_bind (h r1) fun fl => ?_) (by omega)
    cases fl with
    | nx r2 => exact le_forL h0 h ds r2
    | ct r2 => exact le_forL h0 h ds r2
    | bk r2 => exact le_ret
    | rt v => exact le_ret
theorem le_whileL {test : Env → T Bool} {body : Env → T Fl} {n m : Nat} (h0 : ∀ r, le (test r) n) (h : ∀ r, le (body r) m) : ∀ (k : Nat) (r : Env), le (whileL test body k r) (k * (n + m))
  | 0, r => le_bad
  | k + 1, r => by
    unfold whileL
    rw [Nat.succ_mul, Nat.add_comm]
    refine le_mono (n := n + (m + k * (n + m))) (le_bind (h0 r) fun c => ?_) (by omega)
    split
    · refine le_bind (h r) fun fl => ?_
      cases fl with
      | nx r2 => exact le_whileL h0 h k r2
      | ct r2 => exact le_whileL h0 h k r2
      | bk r2 => exact le_ret
      | rt v => exact le_ret
    · exact le_ret
theorem leS (hc : ∀ f ds, le (call f ds) (cf f)) : ∀ s : S, okS cf wh s = true → ∀ r, le (ex call wh s r) (cS cf wh s) := by
  intro s
  induction s with
  | nil => exact fun _ _ => le_ret
  | cons s t ihs iht =>
    intro h r
    simp only [okS, Bool.and_eq_true] at h
    refine le_bind (ihs h.1 r) fun fl => ?_
    cases fl with
    | nx r2 => exact iht h.2 r2
    | _ => exact le_ret
  | asg i e => exact fun h r => le_bind0 ((leX hc e h).E r) fun d => le_bind0 le_ofO fun _ => le_ret
  | asgF i e => exact fun h r => le_bind0 ((leX hc e h).E r) fun d => le_bind0 le_fz fun _ => le_ret
  | asgT is e =>
    intro h r
    refine le_bind0 ((leX hc e h).E r) fun d => ?_
    cases d <;> first
      | exact le_bind0 le_ofO fun _ => le_ret
      | exact le_bad
  | par is es => exact fun h r => le_bind0 ((leX hc es h).R r) fun ds => le_bind0 le_ofO fun _ => le_ret
  | expr e => exact fun h r => le_bind0 ((leX hc e h).E r) fun d => le_ret
  | app i e =>
    intro h r
    show le (match r[i]? with | some (.own xs) => _ | _ => .bad) _
    split
    · split
      · exact le_bind0 ((leX hc e h).E r) fun d => le_bind0 le_fz fun _ => le_ret
      · exact le_bad
    · exact le_bad
  | sset i ix e =>
    intro h r
    simp only [okS, Bool.and_eq_true] at h
    show le (match r[i]? with | some (.own xs) => _ | _ => .bad) _
    split
    · refine le_bind ((leX hc e h.1).E r) fun d => le_mono (n := 0 + cX cf ix) (le_bind le_fz fun d => le_bind0 ((leX hc ix h.2).E r) fun k => ?_) (by omega)
      cases k <;> first
        | exact le_bad
        | skip
      simp only
      split <;> first | exact le_ret | exact le_bad
    · exact le_bad
  | iff t a b iha ihb =>
    intro h r
    simp only [okS, Bool.and_eq_true] at h
    refine le_bind ((leX hc t h.1).B r) fun k => ?_
    split
    · exact le_mono (iha h.2.1 r) (by omega)
    · exact le_mono (ihb h.2.2 r) (by omega)
  | for_ tg it body ih =>
    intro h r
    simp only [okS, Bool.and_eq_true, Bool.or_eq_true, beq_iff_eq] at h
    obtain ⟨⟨h1, h2⟩, h4⟩ := h
    rcases h4 with h4 | h4
    · refine le_bindA ((leX hc it h1).I r) (ans_bX h4 r) fun ds hl => ?_
      exact le_mono (le_forL (fun d r => le_bindTg) (ih h2) ds r) (Nat.mul_le_mul_right _ hl)
    · refine le_bind ((leX hc it h1).I r) fun ds => ?_
      refine le_mono (le_forL (fun d r => le_bindTg) (ih h2) ds r) ?_
      rw [h4]
      simp
  | while_ t body ih =>
    intro h r
    simp only [okS, Bool.and_eq_true] at h
    exact le_whileL (leX hc t h.1).B (ih h.2) wh r
  | ret e =>
    intro h r
    cases e <;> first
      | (refine le_bind0 ((leX hc _ h).E r) fun d => ?_; split <;> first | exact le_ret | exact le_bad)
      | skip
    rename_i i
    show le (match r[i]? with | some (.own xs) => _ | some (.val d) => _ | _ => .bad) _
    split <;> first | exact le_ret | exact le_bad
  | retN => exact fun _ _ => le_ret
  | raise c => exact fun _ _ => le_err
  | frz i =>
    intro h r
    show le (match r[i]? with | some (.own xs) => _ | some (.val d) => _ | _ => .bad) _
    split <;> first | exact le_ret | exact le_bad
  | brk => exact fun _ _ => le_ret
  | cont => exact fun _ _ => le_ret
  | pass => exact fun _ _ => le_ret
end
/-! ### a program's costs, depth by depth -/
def look (t : List (Nat × Nat)) (k : Nat) : Nat := (t.lookup k).getD 0
def cT (P : Tab) (wh : Nat) : Nat → List (Nat × Nat)
  | 0 => []
  | n + 1 => let t := cT P wh n; (0, 1) :: P.map fun d => (d.1, cS (look t) wh d.2.body)
def okT (P : Tab) (wh : Nat) : Nat → Bool
  | 0 => true
  | n + 1 => okT P wh n && P.all fun d => okS (look (cT P wh n)) wh d.2.body
theorem lookup_map {P : Tab} {f : Df → Nat} {k : Nat} : (P.map fun d => (d.1, f d.2)).lookup k = (P.lookup k).map f := by
  induction P with
  | nil => rfl
  | cons p P ih =>
    obtain ⟨j, d⟩ := p
    rw [List.map_cons, List.lookup_cons, List.lookup_cons]
    cases k == j with
    | true => rfl
    | false => exact ih
theorem lookup_mem {P : Tab} {k : Nat} {d : Df} (h : P.lookup k = some d) : ∃ j, (j, d) ∈ P := by
  induction P with
  | nil => cases h
  | cons p P ih =>
    obtain ⟨j, e⟩ := p
    rw [List.lookup_cons] at h
    cases q : k == j with
    | true => rw [q] at h; cases h; exact ⟨j, List.mem_cons_self⟩
    | false => rw [q] at h; obtain ⟨j', h'⟩ := ih h; exact ⟨j', List.mem_cons_of_mem _ h'⟩
theorem le_drawP {ds : List D} : le (drawP ds) 1 := by
  unfold drawP
  split
  · split
    · exact fun d => le_ret
    · exact le_bad
  · exact le_bad
theorem leF {P : Tab} {wh : Nat} : ∀ n, okT P wh n = true → ∀ k ds, le (callF P wh n k ds) (look (cT P wh n) k)
  | 0, _, _, _ => le_bad
  | n + 1, h, 0, ds => by
    have e : look (cT P wh (n + 1)) 0 = 1 := rfl
    rw [e]
    show le (if n = 0 then .bad else drawP ds) 1
    split
    · exact le_bad
    · exact le_drawP
  | n + 1, h, k + 1, ds => by
    rw [show okT P wh (n + 1) = (okT P wh n && P.all fun d => okS (look (cT P wh n)) wh d.2.body) from rfl, Bool.and_eq_true] at h
    have e : look (cT P wh (n + 1)) (k + 1) = ((P.lookup (k + 1)).map fun d => cS (look (cT P wh n)) wh d.body).getD 0 := by
      show ((List.lookup (k + 1) ((0, 1) :: P.map fun d => (d.1, cS (look (cT P wh n)) wh d.2.body))).getD 0) = _
      rw [List.lookup_cons, show (k + 1 == 0) = false from rfl]
      exact congrArg (Option.getD · 0) (lookup_map (f := fun d => cS (look (cT P wh n)) wh d.body))
    rw [e]
    show le (match P.lookup (k + 1) with | some d => runD (callF P wh n) wh d ds | none => .bad) _
    cases q : P.lookup (k + 1) with
    | none => exact le_bad
    | some d =>
      obtain ⟨j, hj⟩ := lookup_mem q
      have ho := List.all_eq_true.mp h.2 _ hj
      show le (runD (callF P wh n) wh d ds) (cS (look (cT P wh n)) wh d.body)
      unfold runD
      split
      · refine le_bind0 (leS (fun f ds => leF n h.1 f ds) d.body ho _) fun fl => ?_
        cases fl <;> first | exact le_ret | exact le_bad
      · exact le_bad
end PV
end
section
set_option maxHeartbeats 400000
/-! PvE: reckoning, step by step. -/
namespace PV
open PySem
section
variable {call : Nat → List D → T D} {wh : Nat} {r : Env}
theorem e_non : (evs call .non).E r = .ret .non := rfl
theorem e_bl {b : Bool} : (evs call (.bl b)).E r = .ret (.bl b) := rfl
theorem e_int {i : Int} : (evs call (.int i)).E r = .ret (.int i) := rfl
theorem e_str {x : Str} : (evs call (.str x)).E r = .ret (.str x) := rfl
theorem e_var {i : Nat} : (evs call (.var i)).E r = getV r i := rfl
theorem e_con {x : Str} {i : Int} : (evs call (.con x i)).E r = .ret (.int i) := rfl
theorem e_bin {op : BOp} {a b : X} : (evs call (.bin op a b)).E r = (evs call a).E r >>= fun x => (evs call b).E r >>= fun y => binT op x y := rfl
theorem e_neg {a : X} : (evs call (.neg a)).E r = (evs call a).E r >>= negT := rfl
theorem e_cmp {op : COp} {a b : X} : (evs call (.cmp op a b)).E r = (evs call a).E r >>= fun x => (evs call b).E r >>= fun y => cmpT op x y >>= fun c => .ret (.bl c) := rfl
theorem e_chain {o p : COp} {a b c : X} : (evs call (.chain o p a b c)).E r = (evs call a).E r >>= fun x => (evs call b).E r >>= fun y => cmpT o x y >>= fun k => if k = true then (evs call c).E r >>= fun z => cmpT p y z >>= fun k => .ret (.bl k) else .ret (.bl false) := rfl
theorem e_and {a b : X} : (evs call (.and a b)).E r = (evs call a).E r >>= fun x => andT x ((evs call b).E r) := rfl
theorem e_or {a b : X} : (evs call (.or a b)).E r = (evs call a).E r >>= fun x => orT x ((evs call b).E r) := rfl
theorem e_not {a : X} : (evs call (.not a)).E r = (evs call a).E r >>= notT := rfl
theorem e_ite {t a b : X} : (evs call (.ite t a b)).E r = (evs call t).B r >>= fun k => if k = true then (evs call a).E r else (evs call b).E r := rfl
theorem e_tup {as : X} : (evs call (.tup as)).E r = (evs call as).A r >>= fun ds => lenT ds (.tup ds) := rfl
theorem e_lst {as : X} : (evs call (.lst as)).E r = (evs call as).A r >>= fun ds => lenT ds (.new ds) := rfl
theorem e_idx {a i : X} : (evs call (.idx a i)).E r = (evs call a).E r >>= fun x => (evs call i).E r >>= fun y => idxT x y := rfl
theorem e_slc {a l h : X} : (evs call (.slc a l h)).E r = (evs call a).E r >>= fun x => (evs call l).O r >>= fun l => (evs call h).O r >>= fun h => slcT x l h := rfl
theorem e_call {f : Nat} {as : X} : (evs call (.call f as)).E r = (evs call as).A r >>= fun ds => call f ds := rfl
theorem e_callK {f : Nat} {pm : List Nat} {as : X} : (evs call (.callK f pm as)).E r = (evs call as).A r >>= fun ds => ofO (permD pm ds) >>= fun ds => call f ds := rfl
theorem e_blt {f : Blt} {as : X} : (evs call (.blt f as)).E r = (evs call as).R r >>= fun ds => bltT f ds := rfl
theorem e_isk {f : Blt} {a : X} : (evs call (.isk f a)).E r = (evs call a).E r >>= fun x => bltT f [x] := rfl
theorem e_comp {tg : Tg} {it cond elt : X} {own : List (Str × Nat)} : (evs call (.comp tg it cond elt own)).E r = (evs call it).I r >>= fun ds => noErr (compL (compF tg (own.map (·.2)) (evs call cond).B (evs call elt).E r) ds) >>= fun ys => .ret (.new ys) := rfl
-- tests
theorem b_var {i : Nat} : (evs call (.var i)).B r = getV r i >>= toB := rfl
theorem b_cmp {op : COp} {a b : X} : (evs call (.cmp op a b)).B r = ((evs call a).E r >>= fun x => (evs call b).E r >>= fun y => cmpT op x y >>= fun c => .ret (.bl c)) >>= toB := rfl
theorem b_chain {o p : COp} {a b c : X} : (evs call (.chain o p a b c)).B r = ((evs call a).E r >>= fun x => (evs call b).E r >>= fun y => cmpT o x y >>= fun k => if k = true then (evs call c).E r >>= fun z => cmpT p y z >>= fun k => .ret (.bl k) else .ret (.bl false)) >>= toB := rfl
theorem b_and {a b : X} : (evs call (.and a b)).B r = (evs call a).B r >>= fun k => if k = true then (evs call b).B r else .ret false := rfl
theorem b_or {a b : X} : (evs call (.or a b)).B r = (evs call a).B r >>= fun k => if k = true then .ret true else (evs call b).B r := rfl
theorem b_not {a : X} : (evs call (.not a)).B r = (evs call a).B r >>= fun k => .ret (!k) := rfl
theorem b_yes : (evs call .yes).B r = .ret true := rfl
theorem b_call {f : Nat} {as : X} : (evs call (.call f as)).B r = ((evs call as).A r >>= fun ds => call f ds) >>= toB := rfl
theorem b_callK {f : Nat} {pm : List Nat} {as : X} : (evs call (.callK f pm as)).B r = ((evs call as).A r >>= fun ds => ofO (permD pm ds) >>= fun ds => call f ds) >>= toB := rfl
theorem b_blt {f : Blt} {as : X} : (evs call (.blt f as)).B r = ((evs call as).R r >>= fun ds => bltT f ds) >>= toB := rfl
theorem b_isk {f : Blt} {a : X} : (evs call (.isk f a)).B r = ((evs call a).E r >>= fun x => bltT f [x]) >>= toB := rfl
-- arguments
theorem a_nil : (evs call .nil).A r = .ret [] := rfl
theorem a_cons {a as : X} : (evs call (.cons a as)).A r = (evs call a).E r >>= fun x => fz x >>= fun x => (evs call as).A r >>= fun xs => .ret (x :: xs) := rfl
theorem r_nil : (evs call .nil).R r = .ret [] := rfl
theorem r_cons {a as : X} : (evs call (.cons a as)).R r = (evs call a).E r >>= fun x => (evs call as).R r >>= fun xs => .ret (x :: xs) := rfl
theorem o_nopart : (evs call .nopart).O r = .ret none := rfl
theorem o_part {a : X} : (evs call (.part a)).O r = (evs call a).E r >>= partT := rfl
-- what is walked
theorem i_rng1 {a : X} : (evs call (.rng1 a)).I r = (evs call a).E r >>= rng1T := rfl
theorem i_rng2 {a b : X} : (evs call (.rng2 a b)).I r = (evs call a).E r >>= fun x => (evs call b).E r >>= fun y => rng2T x y := rfl
theorem i_zip {a b : X} : (evs call (.zip a b)).I r = (evs call a).E r >>= fun x => (evs call b).E r >>= fun y => ofO (zipD x y) := rfl
theorem i_enum {a : X} : (evs call (.enum a)).I r = (evs call a).E r >>= fun x => ofO ((frozenL x).map (enumD 0)) := rfl
theorem i_cap {a : X} : (evs call (.cap a)).I r = (evs call a).I r >>= fun ds => if ds.length ≤ lim then .ret ds else .bad := rfl
theorem i_var {i : Nat} : (evs call (.var i)).I r = getV r i >>= fun v => ofO (frozen v) := rfl
theorem i_blt {f : Blt} {as : X} : (evs call (.blt f as)).I r = ((evs call as).R r >>= fun ds => bltT f ds) >>= fun v => ofO (frozen v) := rfl
theorem i_call {f : Nat} {as : X} : (evs call (.call f as)).I r = ((evs call as).A r >>= fun ds => call f ds) >>= fun v => ofO (frozen v) := rfl
theorem i_tup {as : X} : (evs call (.tup as)).I r = ((evs call as).A r >>= fun ds => lenT ds (.tup ds)) >>= fun v => ofO (frozen v) := rfl
theorem i_lst {as : X} : (evs call (.lst as)).I r = ((evs call as).A r >>= fun ds => lenT ds (.new ds)) >>= fun v => ofO (frozen v) := rfl
theorem i_idx {a i : X} : (evs call (.idx a i)).I r = ((evs call a).E r >>= fun x => (evs call i).E r >>= fun y => idxT x y) >>= fun v => ofO (frozen v) := rfl
theorem i_slc {a l h : X} : (evs call (.slc a l h)).I r = ((evs call a).E r >>= fun x => (evs call l).O r >>= fun l => (evs call h).O r >>= fun h => slcT x l h) >>= fun v => ofO (frozen v) := rfl
-- operators
theorem q_add {i j : Int} : binT .add (.int i) (.int j) = .ret (.int (i + j)) := rfl
theorem q_sub {i j : Int} : binT .sub (.int i) (.int j) = .ret (.int (i - j)) := rfl
theorem q_mod {i j : Int} (h : 0 < j) : binT .mod (.int i) (.int j) = .ret (.int (i % j)) := if_pos h
theorem q_fdiv {i j : Int} (h : 0 < j) (h2 : j < 2 ^ 64) : binT .fdiv (.int i) (.int j) = .ret (.int (i / j)) := if_pos ⟨h, Int.lt_of_lt_of_le h2 (by decide +kernel)⟩
theorem q_mulL {i j : Int} (h : -(2 ^ 64) < i) (h2 : i < 2 ^ 64) : binT .mul (.int i) (.int j) = .ret (.int (i * j)) := by
  show (if mulOk i j = true then T.ret (D.int (i * j)) else T.bad) = _
  rw [if_pos]
  unfold mulOk
  rw [decide_eq_true ⟨h, h2⟩]
  rfl
theorem q_mulR {i j : Int} (h : -(2 ^ 64) < j) (h2 : j < 2 ^ 64) : binT .mul (.int i) (.int j) = .ret (.int (i * j)) := by
  show (if mulOk i j = true then T.ret (D.int (i * j)) else T.bad) = _
  rw [if_pos]
  unfold mulOk
  rw [decide_eq_true (p := -(2 ^ 64) < j ∧ j < 2 ^ 64) ⟨h, h2⟩, Bool.or_true]
theorem q_neg {i : Int} : negT (.int i) = .ret (.int (-i)) := rfl
theorem q_lt {i j : Int} : cmpT .lt (.int i) (.int j) = .ret (decide (i < j)) := rfl
theorem q_le {i j : Int} : cmpT .le (.int i) (.int j) = .ret (decide (i ≤ j)) := rfl
theorem q_gt {i j : Int} : cmpT .gt (.int i) (.int j) = .ret (decide (j < i)) := rfl
theorem q_ge {i j : Int} : cmpT .ge (.int i) (.int j) = .ret (decide (j ≤ i)) := rfl
theorem q_eqI {i j : Int} : cmpT .eq (.int i) (.int j) = .ret (decide (i = j)) := by
  show deq (.int i) (.int j) = _
  unfold deq
  simp [okPy, D.toPy, SeqAt.shaped, PyData.canLay0, PyData.depth, PyData.eqv]
  by_cases h : i = j <;> simp [h]
theorem q_neI {i j : Int} : cmpT .ne (.int i) (.int j) = .ret (!decide (i = j)) := by
  show (deq (.int i) (.int j) >>= fun c => .ret (!c)) = _
  rw [show deq (.int i) (.int j) = _ from q_eqI]
  rfl
theorem q_isNN : cmpT .is .non .non = .ret true := rfl
theorem q_isNT {xs : List D} : cmpT .is (.tup xs) .non = .ret false := rfl
theorem q_isNI {i : Int} : cmpT .is (.int i) .non = .ret false := rfl
theorem q_isNL {xs : List D} : cmpT .is (.lst xs) .non = .ret false := rfl
theorem q_isnNN : cmpT .isn .non .non = .ret false := rfl
theorem q_isnNT {xs : List D} : cmpT .isn (.tup xs) .non = .ret true := rfl
theorem q_isnNI {i : Int} : cmpT .isn (.int i) .non = .ret true := rfl
theorem q_isnNL {xs : List D} : cmpT .isn (.lst xs) .non = .ret true := rfl
theorem q_andT {t : T D} : andT (.bl true) t = t := rfl
theorem q_andF {t : T D} : andT (.bl false) t = .ret (.bl false) := rfl
theorem q_orT {t : T D} : orT (.bl true) t = .ret (.bl true) := rfl
theorem q_orF {t : T D} : orT (.bl false) t = t := rfl
theorem q_not {b : Bool} : notT (.bl b) = .ret (.bl (!b)) := rfl
theorem q_toB {b : Bool} : toB (.bl b) = .ret b := rfl
theorem q_part {i : Int} : partT (.int i) = .ret (some i) := rfl
theorem q_fzI {i : Int} : fz (.int i) = .ret (.int i) := rfl
theorem q_fzB {b : Bool} : fz (.bl b) = .ret (.bl b) := rfl
theorem q_fzS {x : Str} : fz (.str x) = .ret (.str x) := rfl
theorem q_fzN : fz .non = .ret .non := rfl
theorem q_fzT {xs : List D} : fz (.tup xs) = .ret (.tup xs) := rfl
theorem q_fzL {xs : List D} : fz (.lst xs) = .ret (.lst xs) := rfl
theorem q_fzW {xs : List D} : fz (.new xs) = .ret (.lst xs) := rfl
theorem q_fzSt : fz .sta = .ret .sta := rfl
theorem q_fzSc {ns : List Int} : fz (.scr ns) = .ret (.scr ns) := rfl
theorem ite_bind {a b : Type} {c : Prop} [Decidable c] {x y : T a} {f : a → T b} : ((if c then x else y) >>= f) = if c then x >>= f else y >>= f := by
  by_cases h : c
  · rw [if_pos h, if_pos h]
  · rw [if_neg h, if_neg h]
theorem dite_true {a : Type} {c : Prop} [Decidable c] {x y : a} : (if decide c = true then x else y) = if c then x else y := by
  by_cases h : c
  · rw [if_pos h, if_pos (decide_eq_true h)]
  · rw [if_neg h, if_neg (by simp [h])]
theorem rng_ok {i j : Int} (h : -(2 ^ 62) ≤ i ∧ i < 2 ^ 62 ∧ -(2 ^ 62) ≤ j ∧ j < 2 ^ 62 ∧ (j - i).toNat ≤ lim) : rngI i j = .ret ((List.range (j - i).toNat).map fun k => .int (i + (k : Nat))) := by
  unfold rngI
  rw [if_pos (decide_eq_true h)]
-- statements
def seqK (k : Env → T Fl) : Fl → T Fl
  | .nx r => k r
  | f => .ret f
theorem s_nil : ex call wh .nil r = .ret (.nx r) := rfl
theorem s_cons {s t : S} : ex call wh (.cons s t) r = ex call wh s r >>= seqK (ex call wh t) := by
  have q : (fun fl : Fl => match fl with | .nx r2 => ex call wh t r2 | f => T.ret f) = seqK (ex call wh t) := by
    funext fl
    cases fl <;> rfl
  rw [← q]
  rfl
theorem k_nx {k : Env → T Fl} : seqK k (.nx r) = k r := rfl
theorem k_rt {k : Env → T Fl} {d : D} : seqK k (.rt d) = .ret (.rt d) := rfl
theorem k_bk {k : Env → T Fl} : seqK k (.bk r) = .ret (.bk r) := rfl
theorem k_ct {k : Env → T Fl} : seqK k (.ct r) = .ret (.ct r) := rfl
theorem s_asg {i : Nat} {e : X} : ex call wh (.asg i e) r = (evs call e).E r >>= fun d => slOf d >>= fun s => .ret (.nx (r.set i s)) := rfl
theorem s_asgF {i : Nat} {e : X} : ex call wh (.asgF i e) r = (evs call e).E r >>= fun d => fz d >>= fun d => .ret (.nx (r.set i (.val d))) := rfl
def asgK (is : List Nat) (r : Env) : D → T Fl
  | .tup ds => ofO (setAll is ds r) >>= fun r2 => .ret (.nx r2)
  | _ => .bad
theorem s_asgT {is : List Nat} {e : X} : ex call wh (.asgT is e) r = (evs call e).E r >>= asgK is r := by
  have q : (fun d : D => match d with | .tup ds => ofO (setAll is ds r) >>= fun r2 => T.ret (Fl.nx r2) | _ => T.bad) = asgK is r := by
    funext d
    cases d <;> rfl
  rw [← q]
  rfl
theorem k_asg {is : List Nat} {ds : List D} : asgK is r (.tup ds) = ofO (setAll is ds r) >>= fun r2 => .ret (.nx r2) := rfl
theorem s_par {is : List Nat} {es : X} : ex call wh (.par is es) r = (evs call es).R r >>= fun ds => ofO (parT is ds r) >>= fun r2 => .ret (.nx r2) := rfl
theorem s_expr {e : X} : ex call wh (.expr e) r = (evs call e).E r >>= fun _ => .ret (.nx r) := rfl
theorem s_iff {t : X} {a b : S} : ex call wh (.iff t a b) r = (evs call t).B r >>= fun k => if k = true then ex call wh a r else ex call wh b r := rfl
theorem s_for {tg : Tg} {it : X} {b : S} : ex call wh (.for_ tg it b) r = (evs call it).I r >>= fun ds => forL (bindTg tg) (ex call wh b) ds r := rfl
theorem s_while {t : X} {b : S} : ex call wh (.while_ t b) r = whileL (evs call t).B (ex call wh b) wh r := rfl
theorem s_retN : ex call wh .retN r = .ret (.rt .non) := rfl
theorem s_raise {c : Nat} : ex call wh (.raise c) r = .err c := rfl
theorem s_brk : ex call wh .brk r = .ret (.bk r) := rfl
theorem s_cont : ex call wh .cont r = .ret (.ct r) := rfl
theorem s_pass : ex call wh .pass r = .ret (.nx r) := rfl
def frzK (r : Env) (i : Nat) : Option Sl → T Fl
  | some (.own xs) => .ret (.nx (r.set i (.val (.lst xs))))
  | some (.val _) => .ret (.nx r)
  | _ => .bad
theorem s_frz {i : Nat} : ex call wh (.frz i) r = frzK r i r[i]? := by
  show (match r[i]? with | some (.own xs) => T.ret (Fl.nx (r.set i (.val (.lst xs)))) | some (.val d) => T.ret (Fl.nx r) | _ => T.bad) = _
  cases r[i]? with
  | none => rfl
  | some s => cases s <;> rfl
theorem k_frzO {i : Nat} {xs : List D} : frzK r i (some (.own xs)) = .ret (.nx (r.set i (.val (.lst xs)))) := rfl
theorem k_frzV {i : Nat} {d : D} : frzK r i (some (.val d)) = .ret (.nx r) := rfl
def retVK : Option Sl → T Fl
  | some (.own xs) => .ret (.rt (.new xs))
  | some (.val d) => .ret (.rt d)
  | _ => .bad
theorem s_retV {i : Nat} : ex call wh (.ret (.var i)) r = retVK r[i]? := by
  show (match r[i]? with | some (.own xs) => T.ret (Fl.rt (.new xs)) | some (.val d) => T.ret (Fl.rt d) | _ => T.bad) = _
  cases r[i]? with
  | none => rfl
  | some s => cases s <;> rfl
theorem k_retO {xs : List D} : retVK (some (.own xs)) = .ret (.rt (.new xs)) := rfl
theorem k_retV {d : D} : retVK (some (.val d)) = .ret (.rt d) := rfl
def retK : D → T Fl
  | .bor _ => .bad
  | d => .ret (.rt d)
theorem s_ret {e : X} (h : ∀ i, e ≠ .var i) : ex call wh (.ret e) r = (evs call e).E r >>= retK := by
  have q : (fun d : D => match d with | .bor _ => T.bad | d => T.ret (Fl.rt d)) = retK := by
    funext d
    cases d <;> rfl
  cases e <;> first
    | exact (h _ rfl).elim
    | (rw [← q]; rfl)
theorem s_ret_non  : ex call wh (.ret .non) r = (evs call .non).E r >>= retK := s_ret (by simp)
theorem s_ret_bl {b : Bool} : ex call wh (.ret (.bl b)) r = (evs call (.bl b)).E r >>= retK := s_ret (by simp)
theorem s_ret_int {i : Int} : ex call wh (.ret (.int i)) r = (evs call (.int i)).E r >>= retK := s_ret (by simp)
theorem s_ret_str {x : Str} : ex call wh (.ret (.str x)) r = (evs call (.str x)).E r >>= retK := s_ret (by simp)
theorem s_ret_con {x : Str} {i : Int} : ex call wh (.ret (.con x i)) r = (evs call (.con x i)).E r >>= retK := s_ret (by simp)
theorem s_ret_bin {op : BOp} {a b : X} : ex call wh (.ret (.bin op a b)) r = (evs call (.bin op a b)).E r >>= retK := s_ret (by simp)
theorem s_ret_neg {a : X} : ex call wh (.ret (.neg a)) r = (evs call (.neg a)).E r >>= retK := s_ret (by simp)
theorem s_ret_cmp {op : COp} {a b : X} : ex call wh (.ret (.cmp op a b)) r = (evs call (.cmp op a b)).E r >>= retK := s_ret (by simp)
theorem s_ret_chain {o p : COp} {a b c : X} : ex call wh (.ret (.chain o p a b c)) r = (evs call (.chain o p a b c)).E r >>= retK := s_ret (by simp)
theorem s_ret_and {a b : X} : ex call wh (.ret (.and a b)) r = (evs call (.and a b)).E r >>= retK := s_ret (by simp)
theorem s_ret_or {a b : X} : ex call wh (.ret (.or a b)) r = (evs call (.or a b)).E r >>= retK := s_ret (by simp)
theorem s_ret_not {a : X} : ex call wh (.ret (.not a)) r = (evs call (.not a)).E r >>= retK := s_ret (by simp)
theorem s_ret_ite {t a b : X} : ex call wh (.ret (.ite t a b)) r = (evs call (.ite t a b)).E r >>= retK := s_ret (by simp)
theorem s_ret_tup {as : X} : ex call wh (.ret (.tup as)) r = (evs call (.tup as)).E r >>= retK := s_ret (by simp)
theorem s_ret_lst {as : X} : ex call wh (.ret (.lst as)) r = (evs call (.lst as)).E r >>= retK := s_ret (by simp)
theorem s_ret_idx {a i : X} : ex call wh (.ret (.idx a i)) r = (evs call (.idx a i)).E r >>= retK := s_ret (by simp)
theorem s_ret_slc {a lo hi : X} : ex call wh (.ret (.slc a lo hi)) r = (evs call (.slc a lo hi)).E r >>= retK := s_ret (by simp)
theorem s_ret_call {f : Nat} {as : X} : ex call wh (.ret (.call f as)) r = (evs call (.call f as)).E r >>= retK := s_ret (by simp)
theorem s_ret_callK {f : Nat} {pm : List Nat} {as : X} : ex call wh (.ret (.callK f pm as)) r = (evs call (.callK f pm as)).E r >>= retK := s_ret (by simp)
theorem s_ret_blt {f : Blt} {as : X} : ex call wh (.ret (.blt f as)) r = (evs call (.blt f as)).E r >>= retK := s_ret (by simp)
theorem s_ret_isk {f : Blt} {a : X} : ex call wh (.ret (.isk f a)) r = (evs call (.isk f a)).E r >>= retK := s_ret (by simp)
theorem s_ret_comp {tg : Tg} {it cond elt : X} {own : List (Str × Nat)} : ex call wh (.ret (.comp tg it cond elt own)) r = (evs call (.comp tg it cond elt own)).E r >>= retK := s_ret (by simp)
def appK (r : Env) (i : Nat) (e : T D) : Option Sl → T Fl
  | some (.own xs) => if xs.length < lim then e >>= fun d => fz d >>= fun d => .ret (.nx (r.set i (.own (xs ++ [d])))) else .bad
  | _ => .bad
theorem s_app {i : Nat} {e : X} : ex call wh (.app i e) r = appK r i ((evs call e).E r) r[i]? := by
  show (match r[i]? with | some (.own xs) => (if xs.length < lim then (evs call e).E r >>= fun d => fz d >>= fun d => T.ret (Fl.nx (r.set i (.own (xs ++ [d])))) else T.bad) | _ => T.bad) = _
  cases r[i]? with
  | none => rfl
  | some s => cases s <;> rfl
theorem k_app {i : Nat} {e : T D} {xs : List D} (h : xs.length < lim) : appK r i e (some (.own xs)) = e >>= fun d => fz d >>= fun d => .ret (.nx (r.set i (.own (xs ++ [d])))) := if_pos h
def runK : Fl → T D
  | .rt v => .ret v
  | .nx _ => .ret .non
  | _ => .bad
theorem run_eq {d : Df} {ds : List D} (h : ds.length = d.ps.length) : runD call wh d ds = ex call wh d.body (startE d.N ds) >>= runK := by
  have q : (fun fl : Fl => match fl with | .rt v => T.ret v | .nx _ => T.ret D.non | _ => T.bad) = runK := by
    funext fl
    cases fl <;> rfl
  unfold runD
  rw [if_pos h, ← q]
  all_goals rfl
theorem k_runR {d : D} : runK (.rt d) = .ret d := rfl
theorem k_runN : runK (.nx r) = .ret .non := rfl
def forK (set : D → Env → T Env) (body : Env → T Fl) (ds : List D) : Fl → T Fl
  | .nx r => forL set body ds r
  | .ct r => forL set body ds r
  | .bk r => .ret (.nx r)
  | .rt v => .ret (.rt v)
theorem for_nil {set : D → Env → T Env} {body : Env → T Fl} : forL set body [] r = .ret (.nx r) := rfl
theorem for_cons {set : D → Env → T Env} {body : Env → T Fl} {d : D} {ds : List D} : forL set body (d :: ds) r = set d r >>= fun r1 => body r1 >>= forK set body ds := by
  have q : (fun fl : Fl => match fl with | .nx r2 => forL set body ds r2 | .ct r2 => forL set body ds r2 | .bk r2 => T.ret (Fl.nx r2) | .rt v => T.ret (Fl.rt v)) = forK set body ds := by
    funext fl
    cases fl <;> rfl
  rw [← q]
  rfl
theorem k_forN {set : D → Env → T Env} {body : Env → T Fl} {ds : List D} : forK set body ds (.nx r) = forL set body ds r := rfl
theorem k_forC {set : D → Env → T Env} {body : Env → T Fl} {ds : List D} : forK set body ds (.ct r) = forL set body ds r := rfl
theorem k_forB {set : D → Env → T Env} {body : Env → T Fl} {ds : List D} : forK set body ds (.bk r) = .ret (.nx r) := rfl
theorem k_forR {set : D → Env → T Env} {body : Env → T Fl} {ds : List D} {v : D} : forK set body ds (.rt v) = .ret (.rt v) := rfl
theorem g_nm {i : Nat} {d : D} : bindTg (.nm i) d r = .ret (r.set i (.val d)) := rfl
theorem g_tp {is : List Nat} {ds : List D} : bindTg (.tp is) (.tup ds) r = ofO (setAll is ds r) := rfl
theorem o_some {a : Type} {x : a} : ofO (some x) = .ret x := rfl
/-- a comprehension over what is reckoned -/
theorem comp_map {tg : Tg} {ws : List Nat} {b : Env → T Bool} {e : Env → T D} {f : D → D} : ∀ {ds : List D}, (∀ d ∈ ds, compF tg ws b e r d = .ret (some (f d))) → compL (compF tg ws b e r) ds = .ret (ds.map f)
  | [], _ => rfl
  | d :: ds, h => by
    unfold compL
    rw [h d List.mem_cons_self, ret_bind, comp_map (fun x hx => h x (List.mem_cons_of_mem _ hx))]
    rfl
theorem comp_fmap {tg : Tg} {ws : List Nat} {b : Env → T Bool} {e : Env → T D} {f : D → Option D} : ∀ {ds : List D}, (∀ d ∈ ds, compF tg ws b e r d = .ret (f d)) → compL (compF tg ws b e r) ds = .ret (ds.filterMap f)
  | [], _ => rfl
  | d :: ds, h => by
    unfold compL
    rw [h d List.mem_cons_self, ret_bind, comp_fmap (fun x hx => h x (List.mem_cons_of_mem _ hx)), ret_bind, List.filterMap_cons]
    cases f d <;> rfl
theorem noErr_ret {a : Type} {x : a} : noErr (.ret x) = .ret x := rfl
theorem compF_eq {tg : Tg} {ws : List Nat} {b : Env → T Bool} {e : Env → T D} {d : D} : compF tg ws b e r d = bindTg tg d (wipeE r ws) >>= fun r2 => b r2 >>= fun k => if k = true then e r2 >>= fun y => fz y >>= fun y => .ret (some y) else .ret none := rfl
theorem comp_mapM {α : Type} {tg : Tg} {ws : List Nat} {b : Env → T Bool} {e : Env → T D} {g : α → D} {f : α → D} {l : List α} (h : ∀ x ∈ l, compF tg ws b e r (g x) = .ret (some (f x))) : compL (compF tg ws b e r) (l.map g) = .ret (l.map f) := by
  induction l with
  | nil => rfl
  | cons x l ih =>
    rw [List.map_cons]
    unfold compL
    rw [h x List.mem_cons_self, ret_bind, ih fun y hy => h y (List.mem_cons_of_mem _ hy)]
    rfl
theorem comp_fmapM {α : Type} {tg : Tg} {ws : List Nat} {b : Env → T Bool} {e : Env → T D} {g : α → D} {f : α → Option D} {l : List α} (h : ∀ x ∈ l, compF tg ws b e r (g x) = .ret (f x)) : compL (compF tg ws b e r) (l.map g) = .ret (l.filterMap f) := by
  induction l with
  | nil => rfl
  | cons x l ih =>
    rw [List.map_cons]
    unfold compL
    rw [h x List.mem_cons_self, ret_bind, ih fun y hy => h y (List.mem_cons_of_mem _ hy), ret_bind, List.filterMap_cons]
    cases f x <;> rfl
theorem filterMap_ite {α β : Type} {p : α → Prop} [DecidablePred p] {g : α → β} : ∀ l : List α, (l.filterMap fun x => if p x then some (g x) else none) = (l.filter fun x => decide (p x)).map g
  | [] => rfl
  | x :: l => by
    rw [List.filterMap_cons, List.filter_cons, filterMap_ite l]
    by_cases h : p x <;> simp [h]
theorem idx_last {xs : List D} : L2.atI xs (-1) = xs.getLast? := by
  unfold L2.atI L2.ixN
  rw [if_neg (by decide)]
  cases xs with
  | nil => rfl
  | cons x xs =>
    rw [if_pos (by rw [List.length_cons]; omega), List.getLast?_eq_getElem?, Option.bind_some]
    congr 1
    rw [List.length_cons]
    omega
theorem idx_nat {xs : List D} {i : Nat} {x : D} (h : xs[i]? = some x) : L2.atI xs (i : Int) = some x := by
  have hl := (List.getElem?_eq_some_iff.mp h).1
  unfold L2.atI L2.ixN
  rw [if_pos (by omega), if_pos (by omega), Option.bind_some]
  exact h
/-- handed back, or on -/
def hitK (o : Option D) (r : Env) : T Fl := match o with
  | some v => .ret (.rt v)
  | none => .ret (.nx r)
theorem for_find {α : Type} {set : D → Env → T Env} {body : Env → T Fl} {g : α → D} {Inv : Env → Prop} {hit : α → Option D} : ∀ (l : List α),
    (∀ x ∈ l, ∀ r, Inv r → ∃ r1, set (g x) r = .ret r1 ∧ ∃ r2, Inv r2 ∧ body r1 = hitK (hit x) r2) → ∀ r, Inv r → ∃ r2, Inv r2 ∧ forL set body (l.map g) r = hitK (l.findSome? hit) r2
  | [], _, r, hr => ⟨r, hr, rfl⟩
  | x :: l, h, r, hr => by
    obtain ⟨r1, e1, r2, h2, e2⟩ := h x List.mem_cons_self r hr
    rw [List.map_cons, for_cons, e1, ret_bind, e2, List.findSome?_cons]
    cases q : hit x with
    | some v => exact ⟨r2, h2, rfl⟩
    | none =>
      obtain ⟨r3, h3, e3⟩ := for_find l (fun y hy => h y (List.mem_cons_of_mem _ hy)) r2 h2
      exact ⟨r3, h3, e3⟩
theorem for_fold {α St : Type} {set : D → Env → T Env} {body : Env → T Fl} {g : α → D} {Inv : St → Env → Prop} {step : α → St → St} : ∀ (l : List α),
    (∀ x ∈ l, ∀ s r, Inv s r → ∃ r1, set (g x) r = .ret r1 ∧ ∃ r2, Inv (step x s) r2 ∧ body r1 = .ret (.nx r2)) → ∀ s r, Inv s r → ∃ r2, Inv (l.foldl (fun s x => step x s) s) r2 ∧ forL set body (l.map g) r = .ret (.nx r2)
  | [], _, s, r, hr => ⟨r, hr, rfl⟩
  | x :: l, h, s, r, hr => by
    obtain ⟨r1, e1, r2, h2, e2⟩ := h x List.mem_cons_self s r hr
    rw [List.map_cons, for_cons, e1, ret_bind, e2]
    exact for_fold l (fun y hy => h y (List.mem_cons_of_mem _ hy)) (step x s) r2 h2
/-- a loop that draws: Inv by what is still to come -/
def goP (I : Env → Prop) (V : D → Prop) : Fl → Prop
  | .nx r => I r
  | .rt v => V v
  | _ => False
theorem for_all {α : Type} {set : D → Env → T Env} {body : Env → T Fl} {g : α → D} {Inv : List α → Env → Prop} {V : D → Prop} {E : Nat → Prop} : ∀ (l : List α),
    (∀ x l' r, Inv (x :: l') r → ∃ r1, set (g x) r = .ret r1 ∧ (body r1).All0 (goP (Inv l') V) E) → ∀ r, Inv l r → (forL set body (l.map g) r).All0 (goP (Inv []) V) E
  | [], _, r, hr => hr
  | x :: l, h, r, hr => by
    obtain ⟨r1, e1, h2⟩ := h x l r hr
    rw [List.map_cons, for_cons, e1, ret_bind, all0_bind]
    refine All0.mono h2 (fun fl q => ?_) fun _ e => e
    cases fl with
    | nx r2 => exact for_all l h r2 q
    | rt v => exact q
    | bk _ => exact q.elim
    | ct _ => exact q.elim
theorem noErr_all0 {a : Type} {P : a → Prop} {E : Nat → Prop} {t : T a} (h : t.All0 P fun _ => False) : (noErr t).All0 P E := by
  induction t with
  | ret x => exact h
  | err c => exact h.elim
  | bad => exact h
  | draw n k ih => exact fun d h0 h1 => ih d (h d h0 h1)
theorem compL_all {α : Type} {f : D → T (Option D)} {g : α → D} {P : D → Prop} {E : Nat → Prop} : ∀ (l : List α), (∀ x ∈ l, (f (g x)).All0 (fun o => ∃ y, o = some y ∧ P y) E) → (compL f (l.map g)).All0 (fun ys => ys.length = l.length ∧ ∀ y ∈ ys, P y) E
  | [], _ => ⟨rfl, fun _ h => by cases h⟩
  | x :: l, h => by
    rw [List.map_cons]
    unfold compL
    rw [all0_bind]
    refine All0.mono (h x List.mem_cons_self) (fun o q => ?_) fun _ e => e
    obtain ⟨y, rfl, hy⟩ := q
    rw [all0_bind]
    refine All0.mono (compL_all l fun z hz => h z (List.mem_cons_of_mem _ hz)) (fun ys q => ?_) fun _ e => e
    refine ⟨congrArg Nat.succ q.1, fun z hz => ?_⟩
    rcases List.mem_cons.mp hz with e | e
    · rw [e]; exact hy
    · exact q.2 z e
theorem draw_ok {k : Int} (h : 0 < k) (h2 : k < 2 ^ 64) : drawP [.sta, .int k] = .draw k fun d => .ret (.int d) := by
  show (if decide (0 < k ∧ k < 2 ^ 200) = true then T.draw k fun d => T.ret (D.int d) else T.bad) = _
  rw [if_pos (decide_eq_true ⟨h, Int.lt_of_lt_of_le h2 (by decide +kernel)⟩)]
theorem findSome_pairs {α β γ : Type} {M : α → List β} {p : α × β → Bool} {v : α × β → γ} : ∀ (l : List α), (l.findSome? fun a => (M a).findSome? fun b => if p (a, b) = true then some (v (a, b)) else none) = ((l.flatMap fun a => (M a).map fun b => (a, b)).find? p).map v
  | [] => rfl
  | a :: l => by
    have one : ∀ m : List β, (m.findSome? fun b => if p (a, b) = true then some (v (a, b)) else none) = ((m.map fun b => (a, b)).find? p).map v := by
      intro m
      induction m with
      | nil => rfl
      | cons b m ih =>
        rw [List.findSome?_cons, List.map_cons, List.find?_cons]
        cases p (a, b) with
        | true => rfl
        | false => exact ih
    rw [List.findSome?_cons, one, List.flatMap_cons, List.find?_append, findSome_pairs l]
    cases (List.find? p ((M a).map fun b => (a, b))) with
    | none => rfl
    | some x => rfl
end
/-- All0, closed: Lean's whnf stops here -/
structure Yes {a : Type} (P : a → Prop) (t : T a) : Prop where
  all : t.All0 P fun _ => False
theorem Yes.of_eq {a : Type} {P : a → Prop} {t u : T a} (e : t = u) (h : Yes P u) : Yes P t := e ▸ h
end PV
end
section
set_option maxHeartbeats 0
namespace LW
open PySem PV
def d1 : Df := ⟨"is_whole", ["value"], ["value"],
  (.cons (.ret (.and (.isk .isint (.var 0)) (.and (.not (.isk .isbool (.var 0))) (.chain .lt .lt (.neg (.bin .pow (.int 10) (.int 18))) (.var 0) (.bin .pow (.int 10) (.int 18)))))) .nil)⟩
def d2 : Df := ⟨"is_rising", ["value"], ["value", "one", "other"],
  (.cons (.ret (.blt .all (.cons (.comp (.tp [1, 2]) (.zip (.var 0) (.slc (.var 0) (.part (.int 1)) .nopart)) .yes (.cmp .lt (.var 1) (.var 2)) [("one", 1), ("other", 2)]) .nil))) .nil)⟩
def d3 : Df := ⟨"is_bracket", ["value"], ["value", "start", "base", "p", "r", "item"],
  (.cons (.iff (.or (.not (.isk .istup (.var 0))) (.or (.cmp .ne (.blt .len (.cons (.var 0) .nil)) (.int 4)) (.not (.blt .all (.cons (.comp (.nm 5) (.var 0) .yes (.call 1 (.cons (.var 5) .nil)) [("item", 5)]) .nil))))) (.cons (.ret (.bl false)) .nil) .nil) (.cons (.asgT [1, 2, 3, 4] (.var 0)) (.cons (.ret (.and (.chain .le .le (.int 0) (.var 1) (.con "MOST_START" 400)) (.and (.chain .le .le (.int 0) (.var 2) (.con "MOST_BASE" 2000)) (.and (.chain .le .le (.int 1) (.var 4) (.con "MOST_R" 20)) (.chain .le .le (.int 0) (.var 3) (.bin .mul (.int 3) (.var 4))))))) .nil)))⟩
def d4 : Df := ⟨"is_scale", ["value"], ["value", "item"],
  (.cons (.iff (.or (.not (.isk .istup (.var 0))) (.not (.chain .le .le (.int 1) (.blt .len (.cons (.var 0) .nil)) (.con "MOST_BRACKETS" 6)))) (.cons (.ret (.bl false)) .nil) .nil) (.cons (.iff (.not (.blt .all (.cons (.comp (.nm 1) (.var 0) .yes (.call 3 (.cons (.var 1) .nil)) [("item", 1)]) .nil))) (.cons (.ret (.bl false)) .nil) .nil) (.cons (.ret (.and (.call 2 (.cons (.comp (.nm 1) (.var 0) .yes (.idx (.var 1) (.int 0)) [("item", 1)]) .nil)) (.cmp .eq (.slc (.idx (.var 0) (.int 0)) .nopart (.part (.int 2))) (.tup (.cons (.int 0) (.cons (.int 0) .nil)))))) .nil)))⟩
def d5 : Df := ⟨"need_scale", ["scale"], ["scale"],
  (.cons (.iff (.not (.call 4 (.cons (.var 0) .nil))) (.cons (.raise 1) .nil) .nil) .nil)⟩
def d6 : Df := ⟨"paid_at", ["scale", "amount"], ["scale", "amount", "start", "base", "p", "r", "bracket"],
  (.cons (.asgT [2, 3, 4, 5] (.idx (.comp (.nm 6) (.var 0) (.cmp .le (.idx (.var 6) (.int 0)) (.var 1)) (.var 6) [("bracket", 6)]) (.neg (.int 1)))) (.cons (.ret (.bin .add (.var 3) (.bin .fdiv (.bin .mul (.bin .sub (.var 1) (.var 2)) (.var 4)) (.var 5)))) .nil))⟩
def d7 : Df := ⟨"paid_up_to", ["scale", "most"], ["scale", "most", "amount"],
  (.cons (.ret (.comp (.nm 2) (.rng1 (.bin .add (.var 1) (.int 1))) .yes (.call 6 (.cons (.var 0) (.cons (.var 2) .nil))) [("amount", 2)])) .nil)⟩
def d8 : Df := ⟨"reach_of", ["scale"], ["scale"],
  (.cons (.ret (.bin .add (.idx (.idx (.var 0) (.neg (.int 1))) (.int 0)) (.idx (.idx (.var 0) (.neg (.int 1))) (.int 3)))) .nil)⟩
def d9 : Df := ⟨"first_pair", ["scale", "sign", "least"], ["scale", "sign", "least", "total", "reach", "paid", "one"],
  (.cons (.par [4, 5] (.cons (.call 8 (.cons (.var 0) .nil)) (.cons (.call 7 (.cons (.var 0) (.cons (.bin .mul (.int 2) (.call 8 (.cons (.var 0) .nil))) .nil))) .nil))) (.cons (.frz 5) (.cons (.for_ (.nm 3) (.rng2 (.int 2) (.bin .add (.bin .mul (.int 2) (.var 4)) (.int 1))) (.cons (.for_ (.nm 6) (.rng2 (.blt .max (.cons (.int 1) (.cons (.bin .sub (.var 3) (.var 4)) .nil))) (.bin .add (.bin .fdiv (.var 3) (.int 2)) (.int 1))) (.cons (.iff (.cmp .ge (.bin .mul (.var 1) (.bin .sub (.bin .add (.idx (.var 5) (.var 6)) (.idx (.var 5) (.bin .sub (.var 3) (.var 6)))) (.idx (.var 5) (.var 3)))) (.var 2)) (.cons (.ret (.tup (.cons (.var 6) (.cons (.bin .sub (.var 3) (.var 6)) .nil)))) .nil) .nil) .nil)) .nil)) (.cons (.ret .non) .nil))))⟩
def d10 : Df := ⟨"most_pair", ["scale", "sign"], ["scale", "sign", "most", "one", "reach", "paid", "two"],
  (.cons (.asgT [4, 5] (.tup (.cons (.call 8 (.cons (.var 0) .nil)) (.cons (.call 7 (.cons (.var 0) (.cons (.bin .mul (.int 2) (.call 8 (.cons (.var 0) .nil))) .nil))) .nil)))) (.cons (.asgF 2 (.bin .mul (.var 1) (.bin .sub (.bin .mul (.int 2) (.idx (.var 5) (.int 1))) (.idx (.var 5) (.int 2))))) (.cons (.for_ (.nm 3) (.rng2 (.int 1) (.bin .add (.var 4) (.int 1))) (.cons (.asgF 2 (.blt .max (.cons (.bin .add (.lst (.cons (.var 2) .nil)) (.comp (.nm 6) (.rng2 (.var 3) (.bin .add (.var 4) (.int 1))) .yes (.bin .mul (.var 1) (.bin .sub (.bin .add (.idx (.var 5) (.var 3)) (.idx (.var 5) (.var 6))) (.idx (.var 5) (.bin .add (.var 3) (.var 6))))) [("two", 6)])) .nil))) .nil)) (.cons (.ret (.bin .add (.tup (.cons (.var 2) .nil)) (.call 9 (.cons (.var 0) (.cons (.var 1) (.cons (.var 2) .nil)))))) .nil))))⟩
def d11 : Df := ⟨"first_split", ["scale"], ["scale"],
  (.cons (.expr (.call 5 (.cons (.var 0) .nil))) (.cons (.ret (.call 9 (.cons (.var 0) (.cons (.int 1) (.cons (.int 1) .nil))))) .nil))⟩
def d12 : Df := ⟨"first_join", ["scale"], ["scale"],
  (.cons (.expr (.call 5 (.cons (.var 0) .nil))) (.cons (.ret (.call 9 (.cons (.var 0) (.cons (.neg (.int 1)) (.cons (.int 1) .nil))))) .nil))⟩
def d13 : Df := ⟨"most_split", ["scale"], ["scale"],
  (.cons (.expr (.call 5 (.cons (.var 0) .nil))) (.cons (.ret (.call 10 (.cons (.var 0) (.cons (.int 1) .nil)))) .nil))⟩
def d14 : Df := ⟨"most_join", ["scale"], ["scale"],
  (.cons (.expr (.call 5 (.cons (.var 0) .nil))) (.cons (.ret (.call 10 (.cons (.var 0) (.cons (.neg (.int 1)) .nil)))) .nil))⟩
def d15 : Df := ⟨"_law_pick", ["state", "several"], ["state", "several"],
  (.cons (.ret (.idx (.var 1) (.call 0 (.cons (.var 0) (.cons (.blt .len (.cons (.var 1) .nil)) .nil))))) .nil)⟩
def d16 : Df := ⟨"_law_sc_paid", ["scale", "amount"], ["scale", "amount", "found", "start", "base", "p", "r"],
  (.cons (.asgF 2 (.int 0)) (.cons (.for_ (.tp [3, 4, 5, 6]) (.var 0) (.cons (.iff (.cmp .le (.var 3) (.var 1)) (.cons (.asgF 2 (.bin .add (.var 4) (.bin .fdiv (.bin .mul (.bin .sub (.var 1) (.var 3)) (.var 5)) (.var 6)))) .nil) .nil) .nil)) (.cons (.ret (.var 2)) .nil)))⟩
def d17 : Df := ⟨"_law_sc_scale", ["state", "top", "width"], ["state", "top", "width", "r", "turn", "start", "found", "starts", "base", "way", "line"],
  (.cons (.asgF 3 (.bin .add (.int 1) (.call 0 (.cons (.var 0) (.cons (.var 2) .nil))))) (.cons (.par [6, 7] (.cons (.lst (.cons (.tup (.cons (.int 0) (.cons (.int 0) (.cons (.call 0 (.cons (.var 0) (.cons (.bin .add (.bin .mul (.int 3) (.var 3)) (.int 1)) .nil))) (.cons (.var 3) .nil))))) .nil)) (.cons (.lst .nil) .nil))) (.cons (.frz 7) (.cons (.for_ (.nm 4) (.rng1 (.call 0 (.cons (.var 0) (.cons (.int 6) .nil)))) (.cons (.asgF 5 (.bin .add (.int 1) (.call 0 (.cons (.var 0) (.cons (.var 1) .nil))))) (.cons (.asgF 7 (.bin .add (.var 7) (.ite (.cmp .nin (.var 5) (.var 7)) (.lst (.cons (.var 5) .nil)) (.lst .nil)))) .nil))) (.cons (.for_ (.nm 5) (.cap (.blt .sorted (.cons (.var 7) .nil))) (.cons (.par [3, 9, 10] (.cons (.bin .add (.int 1) (.call 0 (.cons (.var 0) (.cons (.var 2) .nil)))) (.cons (.call 0 (.cons (.var 0) (.cons (.int 5) .nil))) (.cons (.call 16 (.cons (.blt .tuple (.cons (.var 6) .nil)) (.cons (.var 5) .nil))) .nil)))) (.cons (.asgF 8 (.idx (.lst (.cons (.var 10) (.cons (.bin .sub (.bin .add (.var 10) (.call 0 (.cons (.var 0) (.cons (.int 7) .nil)))) (.int 3)) (.cons (.int 0) (.cons (.call 0 (.cons (.var 0) (.cons (.bin .add (.bin .mul (.int 3) (.var 5)) (.int 1)) .nil))) (.cons (.bin .add (.var 10) (.call 0 (.cons (.var 0) (.cons (.int 3) .nil)))) .nil)))))) (.var 9))) (.cons (.app 6 (.tup (.cons (.var 5) (.cons (.blt .min (.cons (.blt .max (.cons (.var 8) (.cons (.int 0) .nil))) (.cons (.int 2000) .nil))) (.cons (.call 0 (.cons (.var 0) (.cons (.bin .add (.bin .mul (.int 3) (.var 3)) (.int 1)) .nil))) (.cons (.var 3) .nil)))))) .nil)))) (.cons (.ret (.blt .tuple (.cons (.var 6) .nil))) .nil))))))⟩
def d18 : Df := ⟨"_law_sc_step", ["state", "top"], ["state", "top", "start", "base"],
  (.cons (.par [2, 3] (.cons (.bin .add (.int 2) (.call 0 (.cons (.var 0) (.cons (.bin .sub (.var 1) (.int 1)) .nil)))) (.cons (.bin .add (.int 1) (.call 0 (.cons (.var 0) (.cons (.int 2000) .nil)))) .nil))) (.cons (.ret (.tup (.cons (.tup (.cons (.tup (.cons (.int 0) (.cons (.int 0) (.cons (.int 0) (.cons (.int 1) .nil))))) (.cons (.tup (.cons (.var 2) (.cons (.var 3) (.cons (.int 0) (.cons (.int 1) .nil))))) .nil))) (.cons (.var 2) (.cons (.var 3) .nil))))) .nil))⟩
def d19 : Df := ⟨"_law_sc_own", ["state", "top"], ["state", "top", "p", "start", "r"],
  (.cons (.par [3, 4] (.cons (.bin .add (.int 2) (.call 0 (.cons (.var 0) (.cons (.bin .sub (.var 1) (.int 1)) .nil)))) (.cons (.bin .add (.int 1) (.call 0 (.cons (.var 0) (.cons (.int 20) .nil)))) .nil))) (.cons (.asgF 2 (.bin .add (.int 1) (.call 0 (.cons (.var 0) (.cons (.bin .mul (.int 3) (.var 4)) .nil))))) (.cons (.ret (.tup (.cons (.tup (.cons (.tup (.cons (.int 0) (.cons (.int 0) (.cons (.int 0) (.cons (.int 1) .nil))))) (.cons (.tup (.cons (.var 3) (.cons (.int 0) (.cons (.var 2) (.cons (.var 4) .nil))))) .nil))) (.cons (.var 3) (.cons (.var 2) (.cons (.var 4) .nil)))))) .nil)))⟩
def d20 : Df := ⟨"_law_sc_stretched", ["state"], ["state", "width", "k", "scale", "start", "base", "p", "r"],
  (.cons (.asgF 1 (.bin .add (.int 1) (.call 0 (.cons (.var 0) (.cons (.int 3) .nil))))) (.cons (.asgF 2 (.bin .add (.int 2) (.call 0 (.cons (.var 0) (.cons (.bin .sub (.bin .fdiv (.int 20) (.var 1)) (.int 1)) .nil))))) (.cons (.asgF 3 (.blt .tuple (.cons (.comp (.tp [4, 5, 6, 7]) (.call 17 (.cons (.var 0) (.cons (.int 9) (.cons (.var 1) .nil)))) .yes (.tup (.cons (.var 4) (.cons (.var 5) (.cons (.bin .mod (.blt .int (.cons (.var 6) .nil)) (.int 2)) (.cons (.var 7) .nil))))) [("start", 4), ("base", 5), ("p", 6), ("r", 7)]) .nil))) (.cons (.ret (.tup (.cons (.var 3) (.cons (.var 2) (.cons (.blt .tuple (.cons (.comp (.tp [4, 5, 6, 7]) (.var 3) .yes (.tup (.cons (.bin .mul (.var 2) (.var 4)) (.cons (.var 5) (.cons (.var 6) (.cons (.bin .mul (.var 2) (.var 7)) .nil))))) [("start", 4), ("base", 5), ("p", 6), ("r", 7)]) .nil)) .nil))))) .nil))))⟩
def d21 : Df := ⟨"_law_k36_due", ["scale", "sign"], ["scale", "sign", "paid", "total", "reach", "first", "most", "one", "amount", "gain"],
  (.cons (.par [4, 5, 6] (.cons (.bin .add (.idx (.idx (.var 0) (.neg (.int 1))) (.int 0)) (.bin .mul (.int 2) (.idx (.idx (.var 0) (.neg (.int 1))) (.int 3)))) (.cons .non (.cons .non .nil)))) (.cons (.asgF 2 (.comp (.nm 8) (.rng1 (.bin .add (.bin .mul (.int 2) (.var 4)) (.int 1))) .yes (.call 16 (.cons (.var 0) (.cons (.var 8) .nil))) [("amount", 8)])) (.cons (.for_ (.nm 3) (.rng2 (.int 2) (.bin .add (.bin .mul (.int 2) (.var 4)) (.int 1))) (.cons (.for_ (.nm 7) (.rng2 (.int 1) (.var 3)) (.cons (.asgF 9 (.bin .mul (.var 1) (.bin .sub (.bin .add (.idx (.var 2) (.var 7)) (.idx (.var 2) (.bin .sub (.var 3) (.var 7)))) (.idx (.var 2) (.var 3))))) (.cons (.iff (.and (.cmp .gt (.var 9) (.int 0)) (.cmp .is (.var 5) .non)) (.cons (.asgF 5 (.tup (.cons (.var 7) (.cons (.bin .sub (.var 3) (.var 7)) .nil)))) .nil) .nil) (.cons (.iff (.or (.cmp .is (.var 6) .non) (.cmp .gt (.var 9) (.idx (.var 6) (.int 0)))) (.cons (.asgF 6 (.tup (.cons (.var 9) (.cons (.var 7) (.cons (.bin .sub (.var 3) (.var 7)) .nil))))) .nil) .nil) .nil)))) .nil)) (.cons (.ret (.tup (.cons (.var 5) (.cons (.var 6) .nil)))) .nil))))⟩
def d22 : Df := ⟨"_law_k36_great", ["state", "scale", "told", "sign"], ["state", "scale", "told", "sign", "turn", "one", "other", "gain"],
  (.cons (.for_ (.nm 4) (.rng1 (.int 12)) (.cons (.asgF 5 (.bin .add (.int 1) (.call 0 (.cons (.var 0) (.cons (.call 15 (.cons (.var 0) (.cons (.lst (.cons (.int 9) (.cons (.int 60) (.cons (.bin .pow (.int 10) (.int 4)) (.cons (.bin .pow (.int 10) (.int 17)) .nil))))) .nil))) .nil))))) (.cons (.asgF 6 (.bin .add (.int 1) (.call 0 (.cons (.var 0) (.cons (.call 15 (.cons (.var 0) (.cons (.lst (.cons (.int 9) (.cons (.int 60) (.cons (.bin .pow (.int 10) (.int 4)) (.cons (.bin .pow (.int 10) (.int 17)) .nil))))) .nil))) .nil))))) (.cons (.asgF 7 (.bin .sub (.bin .add (.call 16 (.cons (.var 1) (.cons (.var 5) .nil))) (.call 16 (.cons (.var 1) (.cons (.var 6) .nil)))) (.call 16 (.cons (.var 1) (.cons (.bin .add (.var 5) (.var 6)) .nil))))) (.cons (.iff (.cmp .gt (.bin .mul (.var 3) (.var 7)) (.idx (.var 2) (.int 0))) (.cons (.ret (.bl false)) .nil) .nil) .nil))))) (.cons (.ret (.bl true)) .nil))⟩
def d23 : Df := ⟨"_law_k36_parts", ["state", "scale"], ["state", "scale", "turn", "parts", "more", "part"],
  (.cons (.for_ (.nm 2) (.rng1 (.int 4)) (.cons (.asgF 3 (.comp (.nm 4) (.rng1 (.bin .add (.int 1) (.call 0 (.cons (.var 0) (.cons (.int 9) .nil))))) .yes (.bin .add (.int 1) (.call 0 (.cons (.var 0) (.cons (.call 15 (.cons (.var 0) (.cons (.lst (.cons (.int 5) (.cons (.int 20) (.cons (.bin .pow (.int 10) (.int 9)) .nil)))) .nil))) .nil)))) [("more", 4)])) (.cons (.iff (.cmp .gt (.blt .sum (.cons (.comp (.nm 5) (.var 3) .yes (.call 16 (.cons (.var 1) (.cons (.var 5) .nil))) [("part", 5)]) .nil)) (.call 16 (.cons (.var 1) (.cons (.blt .sum (.cons (.var 3) .nil)) .nil)))) (.cons (.ret (.bl false)) .nil) .nil) .nil))) (.cons (.ret (.bl true)) .nil))⟩
def d24 : Df := ⟨"_law_k36_formulas", ["state"], ["state", "scale", "start", "base", "p", "r"],
  (.cons (.asgT [1, 2, 3] (.call 18 (.cons (.var 0) (.cons (.int 400) .nil)))) (.cons (.iff (.or (.cmp .ne (.call 11 (.cons (.var 1) .nil)) (.tup (.cons (.var 2) (.cons (.var 2) .nil)))) (.cmp .ne (.call 13 (.cons (.var 1) .nil)) (.tup (.cons (.var 3) (.cons (.var 2) (.cons (.var 2) .nil)))))) (.cons (.ret (.bl false)) .nil) .nil) (.cons (.iff (.or (.cmp .ne (.call 12 (.cons (.var 1) .nil)) (.tup (.cons (.int 1) (.cons (.bin .sub (.var 2) (.int 1)) .nil)))) (.cmp .ne (.call 14 (.cons (.var 1) .nil)) (.tup (.cons (.var 3) (.cons (.int 1) (.cons (.bin .sub (.var 2) (.int 1)) .nil)))))) (.cons (.ret (.bl false)) .nil) .nil) (.cons (.asgT [1, 2, 4, 5] (.call 19 (.cons (.var 0) (.cons (.int 380) .nil)))) (.cons (.iff (.or (.cmp .isn (.call 11 (.cons (.var 1) .nil)) .non) (.cmp .ne (.call 13 (.cons (.var 1) .nil)) (.tup (.cons (.int 0) (.cons (.int 1) (.cons (.int 1) .nil)))))) (.cons (.ret (.bl false)) .nil) .nil) (.cons (.ret (.cmp .eq (.call 12 (.cons (.var 1) .nil)) (.tup (.cons (.int 1) (.cons (.bin .sub (.bin .add (.var 2) (.bin .fdiv (.bin .sub (.bin .add (.var 5) (.var 4)) (.int 1)) (.var 4))) (.int 1)) .nil))))) .nil))))))⟩
def d25 : Df := ⟨"_law_k36_stretched", ["state"], ["state", "gain", "scale", "k", "longer", "first", "found"],
  (.cons (.asgT [2, 3, 4] (.call 20 (.cons (.var 0) .nil))) (.cons (.par [5, 6] (.cons (.idx (.call 21 (.cons (.var 2) (.cons (.int 1) .nil))) (.int 0)) (.cons (.call 11 (.cons (.var 4) .nil)) .nil))) (.cons (.iff (.or (.cmp .is (.var 5) .non) (.cmp .is (.var 6) .non)) (.cons (.ret (.and (.cmp .is (.var 5) .non) (.cmp .is (.var 6) .non))) .nil) .nil) (.cons (.asgF 1 (.bin .sub (.bin .add (.call 16 (.cons (.var 4) (.cons (.idx (.var 6) (.int 0)) .nil))) (.call 16 (.cons (.var 4) (.cons (.idx (.var 6) (.int 1)) .nil)))) (.call 16 (.cons (.var 4) (.cons (.blt .sum (.cons (.var 6) .nil)) .nil))))) (.cons (.ret (.and (.cmp .gt (.var 1) (.int 0)) (.and (.cmp .lt (.int 0) (.idx (.var 6) (.int 0))) (.and (.cmp .le (.idx (.var 6) (.int 0)) (.idx (.var 6) (.int 1))) (.cmp .eq (.blt .sum (.cons (.var 6) .nil)) (.bin .mul (.var 3) (.blt .sum (.cons (.var 5) .nil)))))))) .nil)))))⟩
def dL : Df := ⟨"law", ["script"], ["script", "state", "lap", "scale", "first", "most", "joined"],
  (.cons (.iff (.or (.not (.call 24 (.cons (.var 1) .nil))) (.not (.call 25 (.cons (.var 1) .nil)))) (.cons (.ret (.bl false)) .nil) .nil) (.cons (.for_ (.nm 2) (.rng1 (.bin .add (.int 2) (.blt .min (.cons (.blt .len (.cons (.var 0) .nil)) (.cons (.int 4) .nil))))) (.cons (.asgF 3 (.call 17 (.cons (.var 1) (.cons (.int 10) (.cons (.int 4) .nil))))) (.cons (.asgT [4, 5] (.call 21 (.cons (.var 3) (.cons (.int 1) .nil)))) (.cons (.iff (.or (.cmp .ne (.callK 11 [0] (.cons (.var 3) .nil)) (.var 4)) (.cmp .ne (.callK 13 [0] (.cons (.var 3) .nil)) (.var 5))) (.cons (.ret (.bl false)) .nil) .nil) (.cons (.iff (.or (.not (.call 22 (.cons (.var 1) (.cons (.var 3) (.cons (.var 5) (.cons (.int 1) .nil)))))) (.and (.cmp .is (.var 4) .non) (.not (.call 23 (.cons (.var 1) (.cons (.var 3) .nil)))))) (.cons (.ret (.bl false)) .nil) .nil) (.cons (.asgT [6, 5] (.call 21 (.cons (.var 3) (.cons (.neg (.int 1)) .nil)))) (.cons (.iff (.or (.cmp .ne (.callK 12 [0] (.cons (.var 3) .nil)) (.var 6)) (.cmp .ne (.callK 14 [0] (.cons (.var 3) .nil)) (.var 5))) (.cons (.ret (.bl false)) .nil) .nil) (.cons (.iff (.not (.call 22 (.cons (.var 1) (.cons (.var 3) (.cons (.var 5) (.cons (.neg (.int 1)) .nil)))))) (.cons (.ret (.bl false)) .nil) .nil) .nil)))))))) (.cons (.ret (.bl true)) .nil)))⟩
def tab : Tab := [(1, d1), (2, d2), (3, d3), (4, d4), (5, d5), (6, d6), (7, d7), (8, d8), (9, d9), (10, d10), (11, d11), (12, d12), (13, d13), (14, d14), (15, d15), (16, d16), (17, d17), (18, d18), (19, d19), (20, d20), (21, d21), (22, d22), (23, d23), (24, d24), (25, d25)]
def WH : Nat := 1000
end LW
end
section
set_option maxHeartbeats 0
namespace LW
open PySem PySem.Spec PyProof.Rows L2 PV
def top (i : Nat) : Stmt := PySem.Challenge.pw_samehowever_k36_whole_splitting_and_join.main.body.getD i (.Pass ⟨0, 0, 0, 0⟩)
abbrev FnP (K : PySem.W.Frag) (x : Str) (st : Stmt) (f : Addr) (fd : FuncData) : Prop := FunD K x x (defArgs st) (defBody st) (defScope st) [] [] f fd

def fns : List (Nat × Str × Nat) := [(0, "_law_draw", 2), (1, "is_whole", 1), (2, "is_rising", 1), (3, "is_bracket", 1), (4, "is_scale", 1), (5, "need_scale", 1), (6, "paid_at", 2), (7, "paid_up_to", 2), (8, "reach_of", 1), (9, "first_pair", 3), (10, "most_pair", 2), (11, "first_split", 1), (12, "first_join", 1), (13, "most_split", 1), (14, "most_join", 1), (15, "_law_pick", 2), (16, "_law_sc_paid", 2), (17, "_law_sc_scale", 3), (18, "_law_sc_step", 2), (19, "_law_sc_own", 2), (20, "_law_sc_stretched", 1), (21, "_law_k36_due", 2), (22, "_law_k36_great", 4), (23, "_law_k36_parts", 2), (24, "_law_k36_formulas", 1), (25, "_law_k36_stretched", 1)]
def cons : List (Str × Int) := [("MOST_BRACKETS", 6), ("MOST_START", 400), ("MOST_BASE", 2000), ("MOST_R", 20)]
def cls : List (Nat × Str) := [(0, "HoweverError"), (1, "BadScale")]
def kws : List (Nat × Str × List Str × List Nat) := [(11, "first_split", ["scale"], [0]), (12, "first_join", ["scale"], [0]), (13, "most_split", ["scale"], [0]), (14, "most_join", ["scale"], [0])]
def ck1 : Ck := ⟨d1.N, fns, cons, cls, kws⟩
def ck2 : Ck := ⟨d2.N, fns, cons, cls, kws⟩
def ck3 : Ck := ⟨d3.N, fns, cons, cls, kws⟩
def ck4 : Ck := ⟨d4.N, fns, cons, cls, kws⟩
def ck5 : Ck := ⟨d5.N, fns, cons, cls, kws⟩
def ck6 : Ck := ⟨d6.N, fns, cons, cls, kws⟩
def ck7 : Ck := ⟨d7.N, fns, cons, cls, kws⟩
def ck8 : Ck := ⟨d8.N, fns, cons, cls, kws⟩
def ck9 : Ck := ⟨d9.N, fns, cons, cls, kws⟩
def ck10 : Ck := ⟨d10.N, fns, cons, cls, kws⟩
def ck11 : Ck := ⟨d11.N, fns, cons, cls, kws⟩
def ck12 : Ck := ⟨d12.N, fns, cons, cls, kws⟩
def ck13 : Ck := ⟨d13.N, fns, cons, cls, kws⟩
def ck14 : Ck := ⟨d14.N, fns, cons, cls, kws⟩
def ck15 : Ck := ⟨d15.N, fns, cons, cls, kws⟩
def ck16 : Ck := ⟨d16.N, fns, cons, cls, kws⟩
def ck17 : Ck := ⟨d17.N, fns, cons, cls, kws⟩
def ck18 : Ck := ⟨d18.N, fns, cons, cls, kws⟩
def ck19 : Ck := ⟨d19.N, fns, cons, cls, kws⟩
def ck20 : Ck := ⟨d20.N, fns, cons, cls, kws⟩
def ck21 : Ck := ⟨d21.N, fns, cons, cls, kws⟩
def ck22 : Ck := ⟨d22.N, fns, cons, cls, kws⟩
def ck23 : Ck := ⟨d23.N, fns, cons, cls, kws⟩
def ck24 : Ck := ⟨d24.N, fns, cons, cls, kws⟩
def ck25 : Ck := ⟨d25.N, fns, cons, cls, kws⟩
def ckL : Ck := ⟨dL.N, fns, cons, [], kws⟩
end LW
namespace LW
open PySem PySem.Spec PyProof.Rows L2 PV
section
variable {P : Program} {w : World} {K : PySem.W.Frag} {mg : Str → Option Value} {base : Heap} {f fB : Addr} {fd fdB : FuncData} {s gr ce : Addr}
abbrev NB : List Str := ["state", "turn", "found", "prime", "blend", "cell"]
abbrev sB : Stmt := top 25
theorem scB : FnScope NB ["state"] (defScope sB) := ⟨rfl, rfl, rfl, by decide +kernel, rfl, by decide +kernel, by decide +kernel⟩
theorem ok_blended (F : FnP K "_law_blended" sB f fd) (gI : mg "int" = none) : FnOk P w K mg base CX0 1 f fd ["state"] (spBl s gr ce) := by
  refine F.ok scB (fun vs H Q E h => by obtain ⟨rfl, _⟩ := h; rfl) (fun cdv A outer s0 H vs Q E hr h => ?_)
  have hu := hu_of hr
  refine ⟨_, PSs.nox (pss_cons (ps_par rfl scB.nd (i := 1) (j := 2) rfl rfl (by decide) rfl rfl (pa_cons (pe_op op_add (pe_dget hu (pv 0) pe_str (fun _ _ => rfl)) pe_int) (pa_cons pe_int pa_nil)) (par2_swapped (sc := defScope sB) rfl scB.kind (by decide +kernel)))
    (pss_cons (ps_dput hu (pv 0) pe_str (pv 1) rfl)
    (pss_cons (ps_for PassesOwn.never rfl (pi_list (pe_lst (pa_cons pe_int (pa_cons pe_int (pa_cons pe_int pa_nil))))) (pg_name (i := 3) scB.nd rfl (Or.inl rfl))
       (pss_cons (ps_set (i := 4) scB.nd rfl (Or.inl rfl) (pe_op op_add (pe_op op_mul pe_int (pv 1)) (pe_op op_fdivW (pv 3) pe_int)))
        (pss_cons (ps_for PassesOwn.never rfl (pi_list (pe_dget hu (pv 0) pe_str (fun _ _ => rfl))) (pg_name (i := 5) scB.nd rfl (Or.inl rfl))
            (pss_one (ps_set (i := 4) scB.nd rfl (Or.inl rfl) (pe_op op_mod (pe_callTy call_int1 rfl gI boot_int (pa_cons (pe_op op_add (pe_op op_add (pe_op op_mul (pv 4) pe_int) (pv 5)) (pv 1)) pa_nil)) (pv 3)))))
        (pss_one (ps_set (i := 2) scB.nd rfl (Or.inl rfl) (pe_op op_add (pe_op op_mul (pv 2) pe_int) (pe_op op_mod (pe_callTy call_int1 rfl gI boot_int (pa_cons (pe_op op_powW (pv 4) pe_int) pa_nil)) (pv 3))))))))
    (pss_one (ps_ret (pv 2)))))), ?_⟩
  obtain ⟨rfl, l, t, ns, cs, G, ht, q⟩ := h
  have G1 := G.turn (v := t + 1) (by have := G.t0; omega)
  refine ⟨_, rfl, s, .int t, rfl, dg_turn G, t, 1, rfl, rfl, _, _, rfl, ?_⟩
  refine ⟨_, rfl, _, rfl, s, _, rfl, dp_turn G, ?_⟩
  refine ⟨by show 3 ≤ sizeLine; rw [sizeLine_eq]; omega, fun p hp => ⟨p, rfl, ⟨_, SqL.of upd_same⟩, ?_⟩⟩
  have kp : ∀ a o, upd H s (.dK (stK l (t + 1) gr ce)) a = some o → upd (upd H s (.dK (stK l (t + 1) gr ce))) p (.lst [.int 2147482937, .int 2147482921, .int 2147482877]) a = some o := fun a o e => by
    rw [upd_ne (ne_of_none e hp)]
    exact e
  have G2 := G1.keep kp
  have kq : ∀ a o, H a = some o → a ≠ s → upd (upd H s (.dK (stK l (t + 1) gr ce))) p (.lst [.int 2147482937, .int 2147482921, .int 2147482877]) a = some o := fun a o e n => kp a o (by rw [upd_ne n]; exact e)
  generalize hH2 : upd (upd H s (.dK (stK l (t + 1) gr ce))) p (.lst [.int 2147482937, .int 2147482921, .int 2147482877]) = H2 at *
  refine for_list (xs := [.int 2147482937, .int 2147482921, .int 2147482877]) (fun i σ H' => H2 = H' ∧ ∃ f a3 a4 a5, σ = [some (.ref s), some (.int (t + 1)), some (.int f), a3, a4, a5] ∧ 0 ≤ f) ⟨rfl, 0, _, _, _, rfl, by decide⟩ (fun i σ H' _ pv => ?_) (fun i x σ H' hx pv => ?_) (fun σ H' pv => ?_)
  · obtain ⟨rfl, _⟩ := pv
    rw [← hH2]
    exact SqL.of upd_same
  · obtain ⟨rfl, f, a3, a4, a5, rfl, hf⟩ := pv
    have hx : ∃ pr : Int, x = .int pr ∧ 0 < pr ∧ pr < 2147483648 := by
      match i, hx with
      | 0, h => cases h; exact ⟨_, rfl, by decide, by decide⟩
      | 1, h => cases h; exact ⟨_, rfl, by decide, by decide⟩
      | 2, h => cases h; exact ⟨_, rfl, by decide, by decide⟩
      | n + 3, h => cases h
    obtain ⟨pr, rfl, p0, p1⟩ := hx
    refine ⟨_, rfl, _, _, rfl, rfl, .inl ⟨by decide, by decide⟩, _, rfl, _, _, rfl, rfl, ⟨by decide, by decide⟩, _, _, rfl, rfl, ?_⟩
    refine ⟨_, rfl, s, _, rfl, dg_cells G2, ce, rfl, ⟨_, SqL.of G2.ce⟩, ?_⟩
    have ht0 := G.t0
    have d0 : 0 ≤ pr / 79 := Int.ediv_nonneg (by omega) (by decide)
    have d1 : pr / 79 ≤ pr := Int.ediv_le_self _ (by omega)
    refine for_list (xs := cs.map V.int) (fun j σ H' => H2 = H' ∧ ∃ b a5, σ = [some (.ref s), some (.int (t + 1)), some (.int f), some (.int pr), some (.int b), a5] ∧ 0 ≤ b ∧ b ≤ 40014 * (t + 1) + 2147483648) ⟨rfl, _, _, rfl, by omega, by omega⟩ (fun j σ H' _ pv => ?_) (fun j x σ H' hx pv => ?_) (fun σ H' pv => ?_)
    · obtain ⟨rfl, _⟩ := pv
      exact SqL.of G2.ce
    · obtain ⟨rfl, b, a5, rfl, hb, hb2⟩ := pv
      rw [List.getElem?_map] at hx
      obtain ⟨c, _, rfl⟩ := Option.map_eq_some_iff.mp hx
      refine ⟨_, rfl, _, _, rfl, rfl, .inr ⟨by decide, by decide⟩, _, rfl, _, _, rfl, rfl, _, rfl, _, _, rfl, rfl, .inl ⟨_, rfl, _, rfl, _, _, rfl, rfl, p0, ?_⟩⟩
      have e1 := Int.emod_nonneg (b * 69621 + c + (t + 1)) (Int.ne_of_gt p0)
      have e2 := Int.emod_lt_of_pos (b * 69621 + c + (t + 1)) p0
      exact ⟨rfl, _, _, rfl, e1, by omega⟩
    · obtain ⟨rfl, b, a5, rfl, hb, hb2⟩ := pv
      have hlog := blend_log ht0 ht hb hb2
      refine ⟨_, rfl, _, _, rfl, rfl, .inr ⟨by decide, by decide⟩, _, rfl, _, _, rfl, rfl, ⟨by decide, hlog⟩, .inl ⟨_, rfl, _, rfl, _, _, rfl, rfl, p0, _, _, rfl, rfl, ?_⟩⟩
      have e1 := Int.emod_nonneg (b ^ (5 : Int).toNat) (Int.ne_of_gt p0)
      exact ⟨rfl, _, _, _, _, rfl, by omega⟩
  · obtain ⟨rfl, f, a3, a4, a5, rfl, hf⟩ := pv
    exact ⟨_, rfl, q f _ hf G2.st kq⟩

abbrev ND : List Str := ["state", "size_here", "found"]
abbrev sD : Stmt := top 26
theorem scpD : FnScope ND ["state", "size_here"] (defScope sD) := ⟨rfl, rfl, rfl, by decide +kernel, rfl, by decide +kernel, by decide +kernel⟩
theorem ok_draw (F : FnP K "_law_draw" sD f fd) (FB : FnP K "_law_blended" sB fB fdB) (gI : mg "int" = none) (gB : mg "_law_blended" = some (.ref fB)) : FnOk P w K mg base CX0 2 f fd ["state", "size_here"] (spDr s gr ce) := by
  have GB : FnOk P w K mg base CX0 1 fB fdB ["state"] (spBl s gr ce) := ok_blended FB gI
  have bB : Binds K fdB ["state"] [] := FB.bindsN fun _ _ _ _ _ _ us hl => match us, hl with | [_], _ => rfl
  refine F.ok scpD (fun vs H Q E h => by obtain ⟨k, rfl, _⟩ := h; rfl) (fun cdv A outer s0 H vs Q E hr h => ?_)
  have hu := hu_of hr
  refine ⟨_, PSs.nox (pss_cons (ps_if (pt_cmpR op_eq (pe_dget hu (pv 0) pe_str (fun _ _ => rfl)) pe_int (nomark _))
      (pss_one (ps_dput hu (pv 0) pe_str (pe_ifExp (pt_cmpR (op_neD hr.units) (pe_dget hu (pv 0) pe_str (fun _ _ => rfl)) (pe_lst pa_nil) (nomark _))
        (pe_bm PySem.F.plainAttrs_list PySem.F.slot_list_pop PySem.F.type_list_pop mt_popAt (pe_dget hu (pv 0) pe_str (fun _ _ => rfl)) (pa_cons pe_int pa_nil))
        (pe_call GB hr rfl gB FB.kp bB .nil pass0 (pa_cons (pv 0) pa_nil))) rfl)) pss_nil)
    (pss_cons (ps_set (i := 2) scpD.nd rfl (Or.inl rfl) (pe_op op_mod (pe_callTy call_int1 rfl gI boot_int (pa_cons (pe_dget hu (pv 0) pe_str (fun _ _ => rfl)) pa_nil)) (pv 1)))
    (pss_cons (ps_dput hu (pv 0) pe_str (pe_op op_fdivW (pe_dget hu (pv 0) pe_str (fun _ _ => rfl)) (pv 1)) rfl)
    (pss_one (ps_ret (pv 2)))))), ?_⟩
  obtain ⟨k, rfl, k0, k1, ⟨hne, l, t, ns, cs, G⟩, hb, q⟩ := h
  have hL : t.toNat < LIM := bud_pos (by rw [← GoodAt.bud G]; exact hb)
  have fin : ∀ (l' t' : Int) (ns' : List Int) (H1 : Hp), GoodAt s gr ce l' t' ns' cs H1 → (∀ a o, H a = some o → a ≠ s → a ≠ gr → H1 a = some o) → t ≤ t' → t' ≤ t + 1 → ∀ m : Int, 0 ≤ m → m < k → Q (.int m) (upd H1 s (.dK (stK (l' / k) t' gr ce))) := fun l' t' ns' H1 G1 fr h1 h2 m m0 m1 => by
    have G2 := G1.left (v := l' / k) (Int.ediv_nonneg G1.l0 (Int.le_of_lt k0))
    have ht := G.t0
    have hh := bud_step (L := LIM) (a := t.toNat) (b := t'.toNat) (by omega) (by omega)
    exact q m _ m0 m1 ⟨hne, _, _, _, _, G2⟩ (by rw [GoodAt.bud G, GoodAt.bud G2]; exact hh.1) (by rw [GoodAt.bud G, GoodAt.bud G2]; exact hh.2) fun a o e n1 n2 => by rw [upd_ne n1]; exact fr a o e n1 n2
  refine ⟨_, rfl, s, .int l, rfl, dg_left G, rfl, _, rfl, ?_⟩
  by_cases hl : l = 0
  · subst hl
    refine ite_t (decide_eq_true rfl) ?_
    refine ⟨_, rfl, s, _, rfl, dg_great G, ⟨by show 0 ≤ sizeLine; exact Nat.zero_le _, fun p hp => ?_⟩⟩
    have kp : ∀ a o, H a = some o → upd H p (.lst []) a = some o := fun a o e => by rw [upd_ne (ne_of_none e hp)]; exact e
    have G1 := G.keep kp
    refine ⟨.list (ns.map PyData.int), .list [], .lst (SqL.of G1.gr) (dpI ns), .lst (SqL.of upd_same) .nil, shapedInts ns, shapedInts [], _, rfl, ?_⟩
    have eb : (!PyData.eqv (.list (ns.map PyData.int)) (.list [])) = !decide (ns = []) := by rw [eqv_nil]
    rw [eb]
    cases ns with
    | nil =>
      refine ite_f rfl ?_
      refine ⟨_, rfl, rfl, 0, t, [], cs, G1, hL, fun m H2 m0 e2 fr => ?_⟩
      have G2 : GoodAt s gr ce 0 (t + 1) [] cs H2 := ⟨e2, fr _ _ G1.gr G1.sg, fr _ _ G1.ce G1.sc, by decide, by have := G.t0; omega, G.n0, G.c0, G.nl, G.cl⟩
      refine ⟨_, rfl, s, _, rfl, dp_left (v := m) G2, ?_⟩
      have G3 := G2.left (v := m) m0
      exact draw_rest G3 k0 k1 fun m' h0 h1 => fin m (t + 1) [] _ G3 (fun a o e n1 n2 => by rw [upd_ne n1]; exact fr a o (kp a o e) n1) (by omega) (by omega) m' h0 h1
    | cons n ns =>
      refine ite_t rfl ?_
      refine ⟨_, rfl, s, _, rfl, dg_great G1, .inl ⟨rfl, _, SqL.of G1.gr⟩, gr, _, 0, 0, .int n, rfl, rfl, G1.gr, by decide, by decide, ?_, rfl, ?_⟩
      · show seqIndex? 0 ((n :: ns).map V.int).length = some 0
        unfold seqIndex?
        simp
      · have n0 : 0 ≤ n := G.n0 n List.mem_cons_self
        have e1 : (((n :: ns).map V.int).eraseIdx 0) = ns.map V.int := rfl
        rw [e1]
        have G2 : GoodAt s gr ce 0 t ns cs (upd (upd H p (.lst [])) gr (.lst (ns.map V.int))) := ⟨by rw [upd_ne G.sg.symm]; exact G1.st, upd_same, by rw [upd_ne hne.symm]; exact G1.ce, by decide, G.t0, fun x hx => G.n0 x (List.mem_cons_of_mem _ hx), G.c0, by have := G.nl; simp at this; omega, G.cl⟩
        refine ⟨_, rfl, s, _, rfl, dp_left (v := n) G2, ?_⟩
        have G3 := G2.left (v := n) n0
        exact draw_rest G3 k0 k1 fun m' h0 h1 => fin n t ns _ G3 (fun a o e n1 n2 => by rw [upd_ne n1, upd_ne n2]; exact kp a o e) (by omega) (by omega) m' h0 h1
  · refine ite_f (decide_eq_false fun e => hl (by cases e; rfl)) ?_
    exact draw_rest G k0 k1 fun m' h0 h1 => fin l t ns _ G (fun a o e _ _ => e) (by omega) (by omega) m' h0 h1
abbrev sG : Stmt := top 24
theorem scG : FnScope NG ["script"] (defScope sG) := ⟨rfl, rfl, rfl, by decide +kernel, rfl, by decide +kernel, by decide +kernel⟩
def eCells : Expr := match (defBody sG).getD 1 (.Pass ⟨0, 0, 0, 0⟩) with
  | .Return (some (.Dict _ vs _)) _ => vs.getD 1 (.Constant .none 0 ⟨0, 0, 0, 0⟩)
  | _ => .Constant .none 0 ⟨0, 0, 0, 0⟩
theorem ok_begun (F : FnP K "_law_begun" sG f fd) (free : ∀ x ∈ freeNames, mg x = none) : FnOk P w K mg base CX0 1 f fd ["script"] (spBg K) := by
  refine F.ok scG (fun vs H Q E h => by obtain ⟨a, ns, rfl, _⟩ := h; rfl) (fun cdv A outer s0 H vs Q E hr h => ?_)
  obtain ⟨a, ns, rfl, hS, hl, q⟩ := h
  have fa : Facts (g0 P w K mg base) ckG (fun _ _ => .bad) 0 := ⟨by decide +kernel, fun _ _ _ h => by simp [ckG] at h, fun _ _ _ _ h => by simp [ckG] at h, fun _ _ h => by simp [ckG] at h, free⟩
  have c : CtxD (g0 P w K mg base) ckG (defScope sG) (fun _ _ => False) 0 (cxOf CX0 P w K mg base NG "_law_begun" (defScope sG) f cdv A outer s0 H E).nox :=
    ⟨⟨rfl, rfl, rfl, rfl, rfl, rfl, rfl, rfl, hr, takes0.imp fun _ _ _ _ ⟨_, _, _, h⟩ => h.elim⟩, scG.kind, PassesOwn.never, fun _ => rfl, fun _ _ h => by simp [ckG] at h⟩
  obtain ⟨t1, p1, m1⟩ := (soundS (wh := 0) (Z0 := H) (H0 := H) c fa (.asg 1 xGreat)).S ((defBody sG).getD 0 (.Pass ⟨0, 0, 0, 0⟩)) (by decide +kernel)
  obtain ⟨t2, p2, m2⟩ := (sound fa xCells).E _ _ _ eCells c.ok (by decide +kernel)
  refine ⟨_, PSs.nox (pss_cons p1 (pss_one (ps_ret (pe_disp (pps_cons pe_str (pv 1) (pps_cons pe_str p2 (pps_cons pe_str pe_int (pps_cons pe_str pe_int pps_nil)))) rfl rfl (fun e => by cases e) (by decide))))), ?_⟩
  have pre : Pre (g0 P w K mg base) H H := ⟨fun _ _ e => e, fun _ h => h.elim, trivial⟩
  have r0 : Reps (g0 P w K mg base) H [.ref a] [.scr ns] := .cons (.scr hS hl) .nil
  have sc0 := start_cfg (N := NG) pre r0 (show 1 ≤ 3 by decide)
  have ea : ex (fun _ _ => .bad) 0 (.asg 1 xGreat) (startE NG [.scr ns]) = .ret (.nx [.val (.scr ns), .own ((greatL ns).map D.int), .un]) := by
    show (ev (fun _ _ => .bad) xGreat [.val (.scr ns), .un, .un] >>= _) = _
    rw [ev_great]
    rfl
  refine m1 _ H _ H _ sc0 ?_
  rw [ea]
  intro Z1 σ1 H1 c1 _ _
  obtain ⟨gr, vs, q1, q2, q3, q4, q5, q6⟩ := get_own (i := 1) c1.cfg rfl
  have e1 := q6.intsI (intsD_map _)
  subst e1
  have nb : ∀ b, H1 b = none → H b = none := fun b e => by
    rcases none_or (H := H) (a := b) with z | ⟨u, z⟩
    · exact z
    · rw [c1.stp.h _ _ z (fun h => h.elim)] at e; cases e
  intro p hp
  refine ⟨_, q1, m2 _ Z1 σ1 _ _ (c1.cfg.step (.newH c1.cfg.pre hp)) ?_⟩
  rw [ev_cells]
  intro v Z2 H2 s2 _ r2
  obtain ⟨ce, ws, rfl, h1, h2, h3, h4, h5, h6⟩ := r2
  have e2 := h6.intsI (intsD_map _)
  subst e2
  have hpc : ce ≠ p := fun e => by rw [e, upd_same] at h5; cases h5
  rw [upd_ne hpc] at h5
  have hgc : gr ≠ ce := fun e => by rw [e, h5] at q2; cases q2
  have hgp : gr ≠ p := fun e => by rw [e, hp] at q2; cases q2
  have up : ∀ b o, H1 b = some o → H2 b = some o := fun b o e => s2.h b o (by rw [upd_ne (ne_of_none e hp)]; exact e) fun h => h.elim
  refine ⟨s2.h p _ upd_same fun h => h.elim, stK 0 0 gr ce, rfl, (show 4 ≤ 15 by decide), ?_⟩
  rw [merge_st]
  refine q p gr ce _ hgc ⟨upd_same, by rw [upd_ne hgp]; exact up _ _ q2, by rw [upd_ne hpc]; exact h1, Int.le_refl _, Int.le_refl _, great_nn, cells_nn, Nat.le_trans (great_len ns) hl, by rw [cells_len]; exact hl⟩ (nb p hp) (c1.own0 1 _ gr rfl q1) (nb ce h5) fun b o e => ?_
  have e3 := c1.stp.h b o e fun h => h.elim
  rw [upd_ne (ne_of_none e3 hp)]
  exact up b o e3
end
end LW
namespace LW
open PySem PySem.Spec PyProof.Rows L2 PV
theorem sc1 : FnScope d1.N d1.ps (defScope (top 1)) := ⟨rfl, rfl, rfl, by decide +kernel, rfl, by decide +kernel, by decide +kernel⟩
theorem bd1 {K : PySem.W.Frag} {f : Addr} {fd : FuncData} (F : FnP K "is_whole" (top 1) f fd) : Binds K fd d1.ps [] := F.bindsN fun _ _ _ _ _ _ us hl => match us, hl with | [_], _ => rfl
theorem ch1 : chkB ck1 d1.body (defScope (top 1)) (defBody (top 1)) = true := by decide +kernel
theorem sc2 : FnScope d2.N d2.ps (defScope (top 2)) := ⟨rfl, rfl, rfl, by decide +kernel, rfl, by decide +kernel, by decide +kernel⟩
theorem bd2 {K : PySem.W.Frag} {f : Addr} {fd : FuncData} (F : FnP K "is_rising" (top 2) f fd) : Binds K fd d2.ps [] := F.bindsN fun _ _ _ _ _ _ us hl => match us, hl with | [_], _ => rfl
theorem ch2 : chkB ck2 d2.body (defScope (top 2)) (defBody (top 2)) = true := by decide +kernel
theorem sc3 : FnScope d3.N d3.ps (defScope (top 11)) := ⟨rfl, rfl, rfl, by decide +kernel, rfl, by decide +kernel, by decide +kernel⟩
theorem bd3 {K : PySem.W.Frag} {f : Addr} {fd : FuncData} (F : FnP K "is_bracket" (top 11) f fd) : Binds K fd d3.ps [] := F.bindsN fun _ _ _ _ _ _ us hl => match us, hl with | [_], _ => rfl
theorem ch3 : chkB ck3 d3.body (defScope (top 11)) (defBody (top 11)) = true := by decide +kernel
theorem sc4 : FnScope d4.N d4.ps (defScope (top 12)) := ⟨rfl, rfl, rfl, by decide +kernel, rfl, by decide +kernel, by decide +kernel⟩
theorem bd4 {K : PySem.W.Frag} {f : Addr} {fd : FuncData} (F : FnP K "is_scale" (top 12) f fd) : Binds K fd d4.ps [] := F.bindsN fun _ _ _ _ _ _ us hl => match us, hl with | [_], _ => rfl
theorem ch4 : chkB ck4 d4.body (defScope (top 12)) (defBody (top 12)) = true := by decide +kernel
theorem sc5 : FnScope d5.N d5.ps (defScope (top 13)) := ⟨rfl, rfl, rfl, by decide +kernel, rfl, by decide +kernel, by decide +kernel⟩
theorem bd5 {K : PySem.W.Frag} {f : Addr} {fd : FuncData} (F : FnP K "need_scale" (top 13) f fd) : Binds K fd d5.ps [] := F.bindsN fun _ _ _ _ _ _ us hl => match us, hl with | [_], _ => rfl
theorem ch5 : chkB ck5 d5.body (defScope (top 13)) (defBody (top 13)) = true := by decide +kernel
theorem sc6 : FnScope d6.N d6.ps (defScope (top 14)) := ⟨rfl, rfl, rfl, by decide +kernel, rfl, by decide +kernel, by decide +kernel⟩
theorem bd6 {K : PySem.W.Frag} {f : Addr} {fd : FuncData} (F : FnP K "paid_at" (top 14) f fd) : Binds K fd d6.ps [] := F.bindsN fun _ _ _ _ _ _ us hl => match us, hl with | [_, _], _ => rfl
theorem ch6 : chkB ck6 d6.body (defScope (top 14)) (defBody (top 14)) = true := by decide +kernel
theorem sc7 : FnScope d7.N d7.ps (defScope (top 15)) := ⟨rfl, rfl, rfl, by decide +kernel, rfl, by decide +kernel, by decide +kernel⟩
theorem bd7 {K : PySem.W.Frag} {f : Addr} {fd : FuncData} (F : FnP K "paid_up_to" (top 15) f fd) : Binds K fd d7.ps [] := F.bindsN fun _ _ _ _ _ _ us hl => match us, hl with | [_, _], _ => rfl
theorem ch7 : chkB ck7 d7.body (defScope (top 15)) (defBody (top 15)) = true := by decide +kernel
theorem sc8 : FnScope d8.N d8.ps (defScope (top 16)) := ⟨rfl, rfl, rfl, by decide +kernel, rfl, by decide +kernel, by decide +kernel⟩
theorem bd8 {K : PySem.W.Frag} {f : Addr} {fd : FuncData} (F : FnP K "reach_of" (top 16) f fd) : Binds K fd d8.ps [] := F.bindsN fun _ _ _ _ _ _ us hl => match us, hl with | [_], _ => rfl
theorem ch8 : chkB ck8 d8.body (defScope (top 16)) (defBody (top 16)) = true := by decide +kernel
theorem sc9 : FnScope d9.N d9.ps (defScope (top 17)) := ⟨rfl, rfl, rfl, by decide +kernel, rfl, by decide +kernel, by decide +kernel⟩
theorem bd9 {K : PySem.W.Frag} {f : Addr} {fd : FuncData} (F : FnP K "first_pair" (top 17) f fd) : Binds K fd d9.ps [] := F.bindsN fun _ _ _ _ _ _ us hl => match us, hl with | [_, _, _], _ => rfl
theorem ch9 : chkB ck9 d9.body (defScope (top 17)) (defBody (top 17)) = true := by decide +kernel
theorem sc10 : FnScope d10.N d10.ps (defScope (top 18)) := ⟨rfl, rfl, rfl, by decide +kernel, rfl, by decide +kernel, by decide +kernel⟩
theorem bd10 {K : PySem.W.Frag} {f : Addr} {fd : FuncData} (F : FnP K "most_pair" (top 18) f fd) : Binds K fd d10.ps [] := F.bindsN fun _ _ _ _ _ _ us hl => match us, hl with | [_, _], _ => rfl
theorem ch10 : chkB ck10 d10.body (defScope (top 18)) (defBody (top 18)) = true := by decide +kernel
theorem sc11 : FnScope d11.N d11.ps (defScope (top 19)) := ⟨rfl, rfl, rfl, by decide +kernel, rfl, by decide +kernel, by decide +kernel⟩
theorem bd11 {K : PySem.W.Frag} {f : Addr} {fd : FuncData} (F : FnP K "first_split" (top 19) f fd) : Binds K fd d11.ps [] := F.bindsN fun _ _ _ _ _ _ us hl => match us, hl with | [_], _ => rfl
theorem ch11 : chkB ck11 d11.body (defScope (top 19)) (defBody (top 19)) = true := by decide +kernel
theorem sc12 : FnScope d12.N d12.ps (defScope (top 20)) := ⟨rfl, rfl, rfl, by decide +kernel, rfl, by decide +kernel, by decide +kernel⟩
theorem bd12 {K : PySem.W.Frag} {f : Addr} {fd : FuncData} (F : FnP K "first_join" (top 20) f fd) : Binds K fd d12.ps [] := F.bindsN fun _ _ _ _ _ _ us hl => match us, hl with | [_], _ => rfl
theorem ch12 : chkB ck12 d12.body (defScope (top 20)) (defBody (top 20)) = true := by decide +kernel
theorem sc13 : FnScope d13.N d13.ps (defScope (top 21)) := ⟨rfl, rfl, rfl, by decide +kernel, rfl, by decide +kernel, by decide +kernel⟩
theorem bd13 {K : PySem.W.Frag} {f : Addr} {fd : FuncData} (F : FnP K "most_split" (top 21) f fd) : Binds K fd d13.ps [] := F.bindsN fun _ _ _ _ _ _ us hl => match us, hl with | [_], _ => rfl
theorem ch13 : chkB ck13 d13.body (defScope (top 21)) (defBody (top 21)) = true := by decide +kernel
theorem sc14 : FnScope d14.N d14.ps (defScope (top 22)) := ⟨rfl, rfl, rfl, by decide +kernel, rfl, by decide +kernel, by decide +kernel⟩
theorem bd14 {K : PySem.W.Frag} {f : Addr} {fd : FuncData} (F : FnP K "most_join" (top 22) f fd) : Binds K fd d14.ps [] := F.bindsN fun _ _ _ _ _ _ us hl => match us, hl with | [_], _ => rfl
theorem ch14 : chkB ck14 d14.body (defScope (top 22)) (defBody (top 22)) = true := by decide +kernel
theorem sc15 : FnScope d15.N d15.ps (defScope (top 27)) := ⟨rfl, rfl, rfl, by decide +kernel, rfl, by decide +kernel, by decide +kernel⟩
theorem bd15 {K : PySem.W.Frag} {f : Addr} {fd : FuncData} (F : FnP K "_law_pick" (top 27) f fd) : Binds K fd d15.ps [] := F.bindsN fun _ _ _ _ _ _ us hl => match us, hl with | [_, _], _ => rfl
theorem ch15 : chkB ck15 d15.body (defScope (top 27)) (defBody (top 27)) = true := by decide +kernel
theorem sc16 : FnScope d16.N d16.ps (defScope (top 28)) := ⟨rfl, rfl, rfl, by decide +kernel, rfl, by decide +kernel, by decide +kernel⟩
theorem bd16 {K : PySem.W.Frag} {f : Addr} {fd : FuncData} (F : FnP K "_law_sc_paid" (top 28) f fd) : Binds K fd d16.ps [] := F.bindsN fun _ _ _ _ _ _ us hl => match us, hl with | [_, _], _ => rfl
theorem ch16 : chkB ck16 d16.body (defScope (top 28)) (defBody (top 28)) = true := by decide +kernel
theorem sc17 : FnScope d17.N d17.ps (defScope (top 29)) := ⟨rfl, rfl, rfl, by decide +kernel, rfl, by decide +kernel, by decide +kernel⟩
theorem bd17 {K : PySem.W.Frag} {f : Addr} {fd : FuncData} (F : FnP K "_law_sc_scale" (top 29) f fd) : Binds K fd d17.ps [] := F.bindsN fun _ _ _ _ _ _ us hl => match us, hl with | [_, _, _], _ => rfl
theorem ch17 : chkB ck17 d17.body (defScope (top 29)) (defBody (top 29)) = true := by decide +kernel
theorem sc18 : FnScope d18.N d18.ps (defScope (top 30)) := ⟨rfl, rfl, rfl, by decide +kernel, rfl, by decide +kernel, by decide +kernel⟩
theorem bd18 {K : PySem.W.Frag} {f : Addr} {fd : FuncData} (F : FnP K "_law_sc_step" (top 30) f fd) : Binds K fd d18.ps [] := F.bindsN fun _ _ _ _ _ _ us hl => match us, hl with | [_, _], _ => rfl
theorem ch18 : chkB ck18 d18.body (defScope (top 30)) (defBody (top 30)) = true := by decide +kernel
theorem sc19 : FnScope d19.N d19.ps (defScope (top 31)) := ⟨rfl, rfl, rfl, by decide +kernel, rfl, by decide +kernel, by decide +kernel⟩
theorem bd19 {K : PySem.W.Frag} {f : Addr} {fd : FuncData} (F : FnP K "_law_sc_own" (top 31) f fd) : Binds K fd d19.ps [] := F.bindsN fun _ _ _ _ _ _ us hl => match us, hl with | [_, _], _ => rfl
theorem ch19 : chkB ck19 d19.body (defScope (top 31)) (defBody (top 31)) = true := by decide +kernel
theorem sc20 : FnScope d20.N d20.ps (defScope (top 32)) := ⟨rfl, rfl, rfl, by decide +kernel, rfl, by decide +kernel, by decide +kernel⟩
theorem bd20 {K : PySem.W.Frag} {f : Addr} {fd : FuncData} (F : FnP K "_law_sc_stretched" (top 32) f fd) : Binds K fd d20.ps [] := F.bindsN fun _ _ _ _ _ _ us hl => match us, hl with | [_], _ => rfl
theorem ch20 : chkB ck20 d20.body (defScope (top 32)) (defBody (top 32)) = true := by decide +kernel
theorem sc21 : FnScope d21.N d21.ps (defScope (top 33)) := ⟨rfl, rfl, rfl, by decide +kernel, rfl, by decide +kernel, by decide +kernel⟩
theorem bd21 {K : PySem.W.Frag} {f : Addr} {fd : FuncData} (F : FnP K "_law_k36_due" (top 33) f fd) : Binds K fd d21.ps [] := F.bindsN fun _ _ _ _ _ _ us hl => match us, hl with | [_, _], _ => rfl
theorem ch21 : chkB ck21 d21.body (defScope (top 33)) (defBody (top 33)) = true := by decide +kernel
theorem sc22 : FnScope d22.N d22.ps (defScope (top 34)) := ⟨rfl, rfl, rfl, by decide +kernel, rfl, by decide +kernel, by decide +kernel⟩
theorem bd22 {K : PySem.W.Frag} {f : Addr} {fd : FuncData} (F : FnP K "_law_k36_great" (top 34) f fd) : Binds K fd d22.ps [] := F.bindsN fun _ _ _ _ _ _ us hl => match us, hl with | [_, _, _, _], _ => rfl
theorem ch22 : chkB ck22 d22.body (defScope (top 34)) (defBody (top 34)) = true := by decide +kernel
theorem sc23 : FnScope d23.N d23.ps (defScope (top 35)) := ⟨rfl, rfl, rfl, by decide +kernel, rfl, by decide +kernel, by decide +kernel⟩
theorem bd23 {K : PySem.W.Frag} {f : Addr} {fd : FuncData} (F : FnP K "_law_k36_parts" (top 35) f fd) : Binds K fd d23.ps [] := F.bindsN fun _ _ _ _ _ _ us hl => match us, hl with | [_, _], _ => rfl
theorem ch23 : chkB ck23 d23.body (defScope (top 35)) (defBody (top 35)) = true := by decide +kernel
theorem sc24 : FnScope d24.N d24.ps (defScope (top 36)) := ⟨rfl, rfl, rfl, by decide +kernel, rfl, by decide +kernel, by decide +kernel⟩
theorem bd24 {K : PySem.W.Frag} {f : Addr} {fd : FuncData} (F : FnP K "_law_k36_formulas" (top 36) f fd) : Binds K fd d24.ps [] := F.bindsN fun _ _ _ _ _ _ us hl => match us, hl with | [_], _ => rfl
theorem ch24 : chkB ck24 d24.body (defScope (top 36)) (defBody (top 36)) = true := by decide +kernel
theorem sc25 : FnScope d25.N d25.ps (defScope (top 37)) := ⟨rfl, rfl, rfl, by decide +kernel, rfl, by decide +kernel, by decide +kernel⟩
theorem bd25 {K : PySem.W.Frag} {f : Addr} {fd : FuncData} (F : FnP K "_law_k36_stretched" (top 37) f fd) : Binds K fd d25.ps [] := F.bindsN fun _ _ _ _ _ _ us hl => match us, hl with | [_], _ => rfl
theorem ch25 : chkB ck25 d25.body (defScope (top 37)) (defBody (top 37)) = true := by decide +kernel
theorem scL : FnScope dL.N dL.ps (defScope (top 38)) := ⟨rfl, rfl, rfl, by decide +kernel, rfl, by decide +kernel, by decide +kernel⟩
theorem chL : chkB ckL dL.body (defScope (top 38)) ((defBody (top 38)).drop 1) = true := by decide +kernel
structure Base (g : G) : Prop where
  f1 : ∃ (f : Addr) (fd : FuncData), FnP g.K "is_whole" (top 1) f fd ∧ g.mg "is_whole" = some (.ref f)
  f2 : ∃ (f : Addr) (fd : FuncData), FnP g.K "is_rising" (top 2) f fd ∧ g.mg "is_rising" = some (.ref f)
  f3 : ∃ (f : Addr) (fd : FuncData), FnP g.K "is_bracket" (top 11) f fd ∧ g.mg "is_bracket" = some (.ref f)
  f4 : ∃ (f : Addr) (fd : FuncData), FnP g.K "is_scale" (top 12) f fd ∧ g.mg "is_scale" = some (.ref f)
  f5 : ∃ (f : Addr) (fd : FuncData), FnP g.K "need_scale" (top 13) f fd ∧ g.mg "need_scale" = some (.ref f)
  f6 : ∃ (f : Addr) (fd : FuncData), FnP g.K "paid_at" (top 14) f fd ∧ g.mg "paid_at" = some (.ref f)
  f7 : ∃ (f : Addr) (fd : FuncData), FnP g.K "paid_up_to" (top 15) f fd ∧ g.mg "paid_up_to" = some (.ref f)
  f8 : ∃ (f : Addr) (fd : FuncData), FnP g.K "reach_of" (top 16) f fd ∧ g.mg "reach_of" = some (.ref f)
  f9 : ∃ (f : Addr) (fd : FuncData), FnP g.K "first_pair" (top 17) f fd ∧ g.mg "first_pair" = some (.ref f)
  f10 : ∃ (f : Addr) (fd : FuncData), FnP g.K "most_pair" (top 18) f fd ∧ g.mg "most_pair" = some (.ref f)
  f11 : ∃ (f : Addr) (fd : FuncData), FnP g.K "first_split" (top 19) f fd ∧ g.mg "first_split" = some (.ref f)
  f12 : ∃ (f : Addr) (fd : FuncData), FnP g.K "first_join" (top 20) f fd ∧ g.mg "first_join" = some (.ref f)
  f13 : ∃ (f : Addr) (fd : FuncData), FnP g.K "most_split" (top 21) f fd ∧ g.mg "most_split" = some (.ref f)
  f14 : ∃ (f : Addr) (fd : FuncData), FnP g.K "most_join" (top 22) f fd ∧ g.mg "most_join" = some (.ref f)
  f15 : ∃ (f : Addr) (fd : FuncData), FnP g.K "_law_pick" (top 27) f fd ∧ g.mg "_law_pick" = some (.ref f)
  f16 : ∃ (f : Addr) (fd : FuncData), FnP g.K "_law_sc_paid" (top 28) f fd ∧ g.mg "_law_sc_paid" = some (.ref f)
  f17 : ∃ (f : Addr) (fd : FuncData), FnP g.K "_law_sc_scale" (top 29) f fd ∧ g.mg "_law_sc_scale" = some (.ref f)
  f18 : ∃ (f : Addr) (fd : FuncData), FnP g.K "_law_sc_step" (top 30) f fd ∧ g.mg "_law_sc_step" = some (.ref f)
  f19 : ∃ (f : Addr) (fd : FuncData), FnP g.K "_law_sc_own" (top 31) f fd ∧ g.mg "_law_sc_own" = some (.ref f)
  f20 : ∃ (f : Addr) (fd : FuncData), FnP g.K "_law_sc_stretched" (top 32) f fd ∧ g.mg "_law_sc_stretched" = some (.ref f)
  f21 : ∃ (f : Addr) (fd : FuncData), FnP g.K "_law_k36_due" (top 33) f fd ∧ g.mg "_law_k36_due" = some (.ref f)
  f22 : ∃ (f : Addr) (fd : FuncData), FnP g.K "_law_k36_great" (top 34) f fd ∧ g.mg "_law_k36_great" = some (.ref f)
  f23 : ∃ (f : Addr) (fd : FuncData), FnP g.K "_law_k36_parts" (top 35) f fd ∧ g.mg "_law_k36_parts" = some (.ref f)
  f24 : ∃ (f : Addr) (fd : FuncData), FnP g.K "_law_k36_formulas" (top 36) f fd ∧ g.mg "_law_k36_formulas" = some (.ref f)
  f25 : ∃ (f : Addr) (fd : FuncData), FnP g.K "_law_k36_stretched" (top 37) f fd ∧ g.mg "_law_k36_stretched" = some (.ref f)
  free : ∀ x ∈ freeNames, g.mg x = none
  con : ∀ x i, (x, i) ∈ cons → ∃ t, g.mg x = some (.int i t)
  cls : ∀ k x, (k, x) ∈ LW.cls → ClsE g k x
  dr : ∀ n, n ≠ 0 → FnE g (callF tab WH (n + 1)) (n + 1) 0 "_law_draw" 2
  dm : ∃ (f : Addr) (fd : FuncData), g.mg "_law_draw" = some (.ref f) ∧ PySem.W.keepIn g.K (.ref f) = true ∧ Binds g.K fd ["state", "size_here"] []
structure At (g : G) (n : Nat) : Prop where
  fn : ∀ k x m, (k, x, m) ∈ fns → FnE g (callF tab WH n) n k x m
  kw : ∀ k x ks perm, (k, x, ks, perm) ∈ kws → FnK g (callF tab WH n) n k x ks perm ∧ perm.length = ks.length
theorem facts {g : G} (B : Base g) {n : Nat} (A : At g n) {ck : Ck} (nd : ck.N.Nodup) (h1 : ck.fns = fns) (h2 : ck.cons = cons) (h3 : ck.kws = kws) : Facts g ck (callF tab WH n) n :=
  ⟨nd, fun k x m h => A.fn k x m (by rw [← h1]; exact h), fun k x ks pm h => A.kw k x ks pm (by rw [← h3]; exact h), fun x i h => B.con x i (by rw [← h2]; exact h), B.free⟩
/-- what a def is known for -/
def Ok (g : G) (n k : Nat) (x : Str) (f : Addr) (fd : FuncData) (ps : List Str) : Prop := FnOk g.P g.w g.K g.mg g.base (L2.CX g.P g.w) n f fd ps (spD g (callF tab WH n) k)
theorem ok_zero {g : G} {k : Nat} {x : Str} {f : Addr} {fd : FuncData} {ps : List Str} : Ok g 0 k x f fd ps :=
  ⟨fun _ _ _ _ ⟨_, _, _, _, a⟩ => a.elim, fun _ _ _ _ _ _ _ _ _ _ _ _ _ ⟨_, _, _, _, a⟩ => a.elim⟩
theorem ok1 {g : G} (B : Base g) {n : Nat} (A : At g n) {f : Addr} {fd : FuncData} (F : FnP g.K "is_whole" (top 1) f fd) : Ok g (n + 1) 1 "is_whole" f fd d1.ps := fn_sound (d := d1) (k := 0) F sc1 rfl (facts B A sc1.nd rfl rfl rfl) B.cls ch1 rfl
theorem ok2 {g : G} (B : Base g) {n : Nat} (A : At g n) {f : Addr} {fd : FuncData} (F : FnP g.K "is_rising" (top 2) f fd) : Ok g (n + 1) 2 "is_rising" f fd d2.ps := fn_sound (d := d2) (k := 1) F sc2 rfl (facts B A sc2.nd rfl rfl rfl) B.cls ch2 rfl
theorem ok3 {g : G} (B : Base g) {n : Nat} (A : At g n) {f : Addr} {fd : FuncData} (F : FnP g.K "is_bracket" (top 11) f fd) : Ok g (n + 1) 3 "is_bracket" f fd d3.ps := fn_sound (d := d3) (k := 2) F sc3 rfl (facts B A sc3.nd rfl rfl rfl) B.cls ch3 rfl
theorem ok4 {g : G} (B : Base g) {n : Nat} (A : At g n) {f : Addr} {fd : FuncData} (F : FnP g.K "is_scale" (top 12) f fd) : Ok g (n + 1) 4 "is_scale" f fd d4.ps := fn_sound (d := d4) (k := 3) F sc4 rfl (facts B A sc4.nd rfl rfl rfl) B.cls ch4 rfl
theorem ok5 {g : G} (B : Base g) {n : Nat} (A : At g n) {f : Addr} {fd : FuncData} (F : FnP g.K "need_scale" (top 13) f fd) : Ok g (n + 1) 5 "need_scale" f fd d5.ps := fn_sound (d := d5) (k := 4) F sc5 rfl (facts B A sc5.nd rfl rfl rfl) B.cls ch5 rfl
theorem ok6 {g : G} (B : Base g) {n : Nat} (A : At g n) {f : Addr} {fd : FuncData} (F : FnP g.K "paid_at" (top 14) f fd) : Ok g (n + 1) 6 "paid_at" f fd d6.ps := fn_sound (d := d6) (k := 5) F sc6 rfl (facts B A sc6.nd rfl rfl rfl) B.cls ch6 rfl
theorem ok7 {g : G} (B : Base g) {n : Nat} (A : At g n) {f : Addr} {fd : FuncData} (F : FnP g.K "paid_up_to" (top 15) f fd) : Ok g (n + 1) 7 "paid_up_to" f fd d7.ps := fn_sound (d := d7) (k := 6) F sc7 rfl (facts B A sc7.nd rfl rfl rfl) B.cls ch7 rfl
theorem ok8 {g : G} (B : Base g) {n : Nat} (A : At g n) {f : Addr} {fd : FuncData} (F : FnP g.K "reach_of" (top 16) f fd) : Ok g (n + 1) 8 "reach_of" f fd d8.ps := fn_sound (d := d8) (k := 7) F sc8 rfl (facts B A sc8.nd rfl rfl rfl) B.cls ch8 rfl
theorem ok9 {g : G} (B : Base g) {n : Nat} (A : At g n) {f : Addr} {fd : FuncData} (F : FnP g.K "first_pair" (top 17) f fd) : Ok g (n + 1) 9 "first_pair" f fd d9.ps := fn_sound (d := d9) (k := 8) F sc9 rfl (facts B A sc9.nd rfl rfl rfl) B.cls ch9 rfl
theorem ok10 {g : G} (B : Base g) {n : Nat} (A : At g n) {f : Addr} {fd : FuncData} (F : FnP g.K "most_pair" (top 18) f fd) : Ok g (n + 1) 10 "most_pair" f fd d10.ps := fn_sound (d := d10) (k := 9) F sc10 rfl (facts B A sc10.nd rfl rfl rfl) B.cls ch10 rfl
theorem ok11 {g : G} (B : Base g) {n : Nat} (A : At g n) {f : Addr} {fd : FuncData} (F : FnP g.K "first_split" (top 19) f fd) : Ok g (n + 1) 11 "first_split" f fd d11.ps := fn_sound (d := d11) (k := 10) F sc11 rfl (facts B A sc11.nd rfl rfl rfl) B.cls ch11 rfl
theorem ok12 {g : G} (B : Base g) {n : Nat} (A : At g n) {f : Addr} {fd : FuncData} (F : FnP g.K "first_join" (top 20) f fd) : Ok g (n + 1) 12 "first_join" f fd d12.ps := fn_sound (d := d12) (k := 11) F sc12 rfl (facts B A sc12.nd rfl rfl rfl) B.cls ch12 rfl
theorem ok13 {g : G} (B : Base g) {n : Nat} (A : At g n) {f : Addr} {fd : FuncData} (F : FnP g.K "most_split" (top 21) f fd) : Ok g (n + 1) 13 "most_split" f fd d13.ps := fn_sound (d := d13) (k := 12) F sc13 rfl (facts B A sc13.nd rfl rfl rfl) B.cls ch13 rfl
theorem ok14 {g : G} (B : Base g) {n : Nat} (A : At g n) {f : Addr} {fd : FuncData} (F : FnP g.K "most_join" (top 22) f fd) : Ok g (n + 1) 14 "most_join" f fd d14.ps := fn_sound (d := d14) (k := 13) F sc14 rfl (facts B A sc14.nd rfl rfl rfl) B.cls ch14 rfl
theorem ok15 {g : G} (B : Base g) {n : Nat} (A : At g n) {f : Addr} {fd : FuncData} (F : FnP g.K "_law_pick" (top 27) f fd) : Ok g (n + 1) 15 "_law_pick" f fd d15.ps := fn_sound (d := d15) (k := 14) F sc15 rfl (facts B A sc15.nd rfl rfl rfl) B.cls ch15 rfl
theorem ok16 {g : G} (B : Base g) {n : Nat} (A : At g n) {f : Addr} {fd : FuncData} (F : FnP g.K "_law_sc_paid" (top 28) f fd) : Ok g (n + 1) 16 "_law_sc_paid" f fd d16.ps := fn_sound (d := d16) (k := 15) F sc16 rfl (facts B A sc16.nd rfl rfl rfl) B.cls ch16 rfl
theorem ok17 {g : G} (B : Base g) {n : Nat} (A : At g n) {f : Addr} {fd : FuncData} (F : FnP g.K "_law_sc_scale" (top 29) f fd) : Ok g (n + 1) 17 "_law_sc_scale" f fd d17.ps := fn_sound (d := d17) (k := 16) F sc17 rfl (facts B A sc17.nd rfl rfl rfl) B.cls ch17 rfl
theorem ok18 {g : G} (B : Base g) {n : Nat} (A : At g n) {f : Addr} {fd : FuncData} (F : FnP g.K "_law_sc_step" (top 30) f fd) : Ok g (n + 1) 18 "_law_sc_step" f fd d18.ps := fn_sound (d := d18) (k := 17) F sc18 rfl (facts B A sc18.nd rfl rfl rfl) B.cls ch18 rfl
theorem ok19 {g : G} (B : Base g) {n : Nat} (A : At g n) {f : Addr} {fd : FuncData} (F : FnP g.K "_law_sc_own" (top 31) f fd) : Ok g (n + 1) 19 "_law_sc_own" f fd d19.ps := fn_sound (d := d19) (k := 18) F sc19 rfl (facts B A sc19.nd rfl rfl rfl) B.cls ch19 rfl
theorem ok20 {g : G} (B : Base g) {n : Nat} (A : At g n) {f : Addr} {fd : FuncData} (F : FnP g.K "_law_sc_stretched" (top 32) f fd) : Ok g (n + 1) 20 "_law_sc_stretched" f fd d20.ps := fn_sound (d := d20) (k := 19) F sc20 rfl (facts B A sc20.nd rfl rfl rfl) B.cls ch20 rfl
theorem ok21 {g : G} (B : Base g) {n : Nat} (A : At g n) {f : Addr} {fd : FuncData} (F : FnP g.K "_law_k36_due" (top 33) f fd) : Ok g (n + 1) 21 "_law_k36_due" f fd d21.ps := fn_sound (d := d21) (k := 20) F sc21 rfl (facts B A sc21.nd rfl rfl rfl) B.cls ch21 rfl
theorem ok22 {g : G} (B : Base g) {n : Nat} (A : At g n) {f : Addr} {fd : FuncData} (F : FnP g.K "_law_k36_great" (top 34) f fd) : Ok g (n + 1) 22 "_law_k36_great" f fd d22.ps := fn_sound (d := d22) (k := 21) F sc22 rfl (facts B A sc22.nd rfl rfl rfl) B.cls ch22 rfl
theorem ok23 {g : G} (B : Base g) {n : Nat} (A : At g n) {f : Addr} {fd : FuncData} (F : FnP g.K "_law_k36_parts" (top 35) f fd) : Ok g (n + 1) 23 "_law_k36_parts" f fd d23.ps := fn_sound (d := d23) (k := 22) F sc23 rfl (facts B A sc23.nd rfl rfl rfl) B.cls ch23 rfl
theorem ok24 {g : G} (B : Base g) {n : Nat} (A : At g n) {f : Addr} {fd : FuncData} (F : FnP g.K "_law_k36_formulas" (top 36) f fd) : Ok g (n + 1) 24 "_law_k36_formulas" f fd d24.ps := fn_sound (d := d24) (k := 23) F sc24 rfl (facts B A sc24.nd rfl rfl rfl) B.cls ch24 rfl
theorem ok25 {g : G} (B : Base g) {n : Nat} (A : At g n) {f : Addr} {fd : FuncData} (F : FnP g.K "_law_k36_stretched" (top 37) f fd) : Ok g (n + 1) 25 "_law_k36_stretched" f fd d25.ps := fn_sound (d := d25) (k := 24) F sc25 rfl (facts B A sc25.nd rfl rfl rfl) B.cls ch25 rfl
theorem at_ {g : G} (B : Base g) : ∀ n, At g n
  | n => by
    have ih : n = 0 ∨ ∃ m, n = m + 1 ∧ At g m := by
      cases n with
      | zero => exact .inl rfl
      | succ m => exact .inr ⟨m, rfl, at_ B m⟩
    obtain ⟨f1, fd1, F1, g1⟩ := B.f1
    have o1 : Ok g n 1 "is_whole" f1 fd1 d1.ps := by
      rcases ih with rfl | ⟨m, rfl, A⟩
      · exact ok_zero
      · exact ok1 B A F1
    obtain ⟨f2, fd2, F2, g2⟩ := B.f2
    have o2 : Ok g n 2 "is_rising" f2 fd2 d2.ps := by
      rcases ih with rfl | ⟨m, rfl, A⟩
      · exact ok_zero
      · exact ok2 B A F2
    obtain ⟨f3, fd3, F3, g3⟩ := B.f3
    have o3 : Ok g n 3 "is_bracket" f3 fd3 d3.ps := by
      rcases ih with rfl | ⟨m, rfl, A⟩
      · exact ok_zero
      · exact ok3 B A F3
    obtain ⟨f4, fd4, F4, g4⟩ := B.f4
    have o4 : Ok g n 4 "is_scale" f4 fd4 d4.ps := by
      rcases ih with rfl | ⟨m, rfl, A⟩
      · exact ok_zero
      · exact ok4 B A F4
    obtain ⟨f5, fd5, F5, g5⟩ := B.f5
    have o5 : Ok g n 5 "need_scale" f5 fd5 d5.ps := by
      rcases ih with rfl | ⟨m, rfl, A⟩
      · exact ok_zero
      · exact ok5 B A F5
    obtain ⟨f6, fd6, F6, g6⟩ := B.f6
    have o6 : Ok g n 6 "paid_at" f6 fd6 d6.ps := by
      rcases ih with rfl | ⟨m, rfl, A⟩
      · exact ok_zero
      · exact ok6 B A F6
    obtain ⟨f7, fd7, F7, g7⟩ := B.f7
    have o7 : Ok g n 7 "paid_up_to" f7 fd7 d7.ps := by
      rcases ih with rfl | ⟨m, rfl, A⟩
      · exact ok_zero
      · exact ok7 B A F7
    obtain ⟨f8, fd8, F8, g8⟩ := B.f8
    have o8 : Ok g n 8 "reach_of" f8 fd8 d8.ps := by
      rcases ih with rfl | ⟨m, rfl, A⟩
      · exact ok_zero
      · exact ok8 B A F8
    obtain ⟨f9, fd9, F9, g9⟩ := B.f9
    have o9 : Ok g n 9 "first_pair" f9 fd9 d9.ps := by
      rcases ih with rfl | ⟨m, rfl, A⟩
      · exact ok_zero
      · exact ok9 B A F9
    obtain ⟨f10, fd10, F10, g10⟩ := B.f10
    have o10 : Ok g n 10 "most_pair" f10 fd10 d10.ps := by
      rcases ih with rfl | ⟨m, rfl, A⟩
      · exact ok_zero
      · exact ok10 B A F10
    obtain ⟨f11, fd11, F11, g11⟩ := B.f11
    have o11 : Ok g n 11 "first_split" f11 fd11 d11.ps := by
      rcases ih with rfl | ⟨m, rfl, A⟩
      · exact ok_zero
      · exact ok11 B A F11
    obtain ⟨f12, fd12, F12, g12⟩ := B.f12
    have o12 : Ok g n 12 "first_join" f12 fd12 d12.ps := by
      rcases ih with rfl | ⟨m, rfl, A⟩
      · exact ok_zero
      · exact ok12 B A F12
    obtain ⟨f13, fd13, F13, g13⟩ := B.f13
    have o13 : Ok g n 13 "most_split" f13 fd13 d13.ps := by
      rcases ih with rfl | ⟨m, rfl, A⟩
      · exact ok_zero
      · exact ok13 B A F13
    obtain ⟨f14, fd14, F14, g14⟩ := B.f14
    have o14 : Ok g n 14 "most_join" f14 fd14 d14.ps := by
      rcases ih with rfl | ⟨m, rfl, A⟩
      · exact ok_zero
      · exact ok14 B A F14
    obtain ⟨f15, fd15, F15, g15⟩ := B.f15
    have o15 : Ok g n 15 "_law_pick" f15 fd15 d15.ps := by
      rcases ih with rfl | ⟨m, rfl, A⟩
      · exact ok_zero
      · exact ok15 B A F15
    obtain ⟨f16, fd16, F16, g16⟩ := B.f16
    have o16 : Ok g n 16 "_law_sc_paid" f16 fd16 d16.ps := by
      rcases ih with rfl | ⟨m, rfl, A⟩
      · exact ok_zero
      · exact ok16 B A F16
    obtain ⟨f17, fd17, F17, g17⟩ := B.f17
    have o17 : Ok g n 17 "_law_sc_scale" f17 fd17 d17.ps := by
      rcases ih with rfl | ⟨m, rfl, A⟩
      · exact ok_zero
      · exact ok17 B A F17
    obtain ⟨f18, fd18, F18, g18⟩ := B.f18
    have o18 : Ok g n 18 "_law_sc_step" f18 fd18 d18.ps := by
      rcases ih with rfl | ⟨m, rfl, A⟩
      · exact ok_zero
      · exact ok18 B A F18
    obtain ⟨f19, fd19, F19, g19⟩ := B.f19
    have o19 : Ok g n 19 "_law_sc_own" f19 fd19 d19.ps := by
      rcases ih with rfl | ⟨m, rfl, A⟩
      · exact ok_zero
      · exact ok19 B A F19
    obtain ⟨f20, fd20, F20, g20⟩ := B.f20
    have o20 : Ok g n 20 "_law_sc_stretched" f20 fd20 d20.ps := by
      rcases ih with rfl | ⟨m, rfl, A⟩
      · exact ok_zero
      · exact ok20 B A F20
    obtain ⟨f21, fd21, F21, g21⟩ := B.f21
    have o21 : Ok g n 21 "_law_k36_due" f21 fd21 d21.ps := by
      rcases ih with rfl | ⟨m, rfl, A⟩
      · exact ok_zero
      · exact ok21 B A F21
    obtain ⟨f22, fd22, F22, g22⟩ := B.f22
    have o22 : Ok g n 22 "_law_k36_great" f22 fd22 d22.ps := by
      rcases ih with rfl | ⟨m, rfl, A⟩
      · exact ok_zero
      · exact ok22 B A F22
    obtain ⟨f23, fd23, F23, g23⟩ := B.f23
    have o23 : Ok g n 23 "_law_k36_parts" f23 fd23 d23.ps := by
      rcases ih with rfl | ⟨m, rfl, A⟩
      · exact ok_zero
      · exact ok23 B A F23
    obtain ⟨f24, fd24, F24, g24⟩ := B.f24
    have o24 : Ok g n 24 "_law_k36_formulas" f24 fd24 d24.ps := by
      rcases ih with rfl | ⟨m, rfl, A⟩
      · exact ok_zero
      · exact ok24 B A F24
    obtain ⟨f25, fd25, F25, g25⟩ := B.f25
    have o25 : Ok g n 25 "_law_k36_stretched" f25 fd25 d25.ps := by
      rcases ih with rfl | ⟨m, rfl, A⟩
      · exact ok_zero
      · exact ok25 B A F25
    constructor
    · intro k x m h
      simp only [fns, List.mem_cons, List.not_mem_nil, or_false, Prod.mk.injEq] at h
      rcases h with ⟨rfl, rfl, rfl⟩ | ⟨rfl, rfl, rfl⟩ | ⟨rfl, rfl, rfl⟩ | ⟨rfl, rfl, rfl⟩ | ⟨rfl, rfl, rfl⟩ | ⟨rfl, rfl, rfl⟩ | ⟨rfl, rfl, rfl⟩ | ⟨rfl, rfl, rfl⟩ | ⟨rfl, rfl, rfl⟩ | ⟨rfl, rfl, rfl⟩ | ⟨rfl, rfl, rfl⟩ | ⟨rfl, rfl, rfl⟩ | ⟨rfl, rfl, rfl⟩ | ⟨rfl, rfl, rfl⟩ | ⟨rfl, rfl, rfl⟩ | ⟨rfl, rfl, rfl⟩ | ⟨rfl, rfl, rfl⟩ | ⟨rfl, rfl, rfl⟩ | ⟨rfl, rfl, rfl⟩ | ⟨rfl, rfl, rfl⟩ | ⟨rfl, rfl, rfl⟩ | ⟨rfl, rfl, rfl⟩ | ⟨rfl, rfl, rfl⟩ | ⟨rfl, rfl, rfl⟩ | ⟨rfl, rfl, rfl⟩ | ⟨rfl, rfl, rfl⟩
      · rcases ih with rfl | ⟨m, rfl, A⟩
        · obtain ⟨f, fd, h1, h2, h3⟩ := B.dm
          exact ⟨f, fd, _, h1, h2, h3, rfl, ok_zero (x := "_law_draw")⟩
        · cases m with
          | zero =>
            obtain ⟨f, fd, h1, h2, h3⟩ := B.dm
            exact ⟨f, fd, _, h1, h2, h3, rfl, ⟨fun _ _ _ _ ⟨_, _, _, _, a⟩ => a.elim, fun _ _ _ _ _ _ _ _ _ _ _ _ _ ⟨_, _, _, _, a⟩ => a.elim⟩⟩
          | succ m => exact B.dr (m + 1) (Nat.succ_ne_zero m)
      · exact ⟨f1, fd1, d1.ps, g1, F1.kp, bd1 F1, rfl, o1⟩
      · exact ⟨f2, fd2, d2.ps, g2, F2.kp, bd2 F2, rfl, o2⟩
      · exact ⟨f3, fd3, d3.ps, g3, F3.kp, bd3 F3, rfl, o3⟩
      · exact ⟨f4, fd4, d4.ps, g4, F4.kp, bd4 F4, rfl, o4⟩
      · exact ⟨f5, fd5, d5.ps, g5, F5.kp, bd5 F5, rfl, o5⟩
      · exact ⟨f6, fd6, d6.ps, g6, F6.kp, bd6 F6, rfl, o6⟩
      · exact ⟨f7, fd7, d7.ps, g7, F7.kp, bd7 F7, rfl, o7⟩
      · exact ⟨f8, fd8, d8.ps, g8, F8.kp, bd8 F8, rfl, o8⟩
      · exact ⟨f9, fd9, d9.ps, g9, F9.kp, bd9 F9, rfl, o9⟩
      · exact ⟨f10, fd10, d10.ps, g10, F10.kp, bd10 F10, rfl, o10⟩
      · exact ⟨f11, fd11, d11.ps, g11, F11.kp, bd11 F11, rfl, o11⟩
      · exact ⟨f12, fd12, d12.ps, g12, F12.kp, bd12 F12, rfl, o12⟩
      · exact ⟨f13, fd13, d13.ps, g13, F13.kp, bd13 F13, rfl, o13⟩
      · exact ⟨f14, fd14, d14.ps, g14, F14.kp, bd14 F14, rfl, o14⟩
      · exact ⟨f15, fd15, d15.ps, g15, F15.kp, bd15 F15, rfl, o15⟩
      · exact ⟨f16, fd16, d16.ps, g16, F16.kp, bd16 F16, rfl, o16⟩
      · exact ⟨f17, fd17, d17.ps, g17, F17.kp, bd17 F17, rfl, o17⟩
      · exact ⟨f18, fd18, d18.ps, g18, F18.kp, bd18 F18, rfl, o18⟩
      · exact ⟨f19, fd19, d19.ps, g19, F19.kp, bd19 F19, rfl, o19⟩
      · exact ⟨f20, fd20, d20.ps, g20, F20.kp, bd20 F20, rfl, o20⟩
      · exact ⟨f21, fd21, d21.ps, g21, F21.kp, bd21 F21, rfl, o21⟩
      · exact ⟨f22, fd22, d22.ps, g22, F22.kp, bd22 F22, rfl, o22⟩
      · exact ⟨f23, fd23, d23.ps, g23, F23.kp, bd23 F23, rfl, o23⟩
      · exact ⟨f24, fd24, d24.ps, g24, F24.kp, bd24 F24, rfl, o24⟩
      · exact ⟨f25, fd25, d25.ps, g25, F25.kp, bd25 F25, rfl, o25⟩
    · intro k x ks pm h
      simp only [kws, List.mem_cons, List.not_mem_nil, or_false, Prod.mk.injEq] at h
      rcases h with ⟨rfl, rfl, rfl, rfl⟩ | ⟨rfl, rfl, rfl, rfl⟩ | ⟨rfl, rfl, rfl, rfl⟩ | ⟨rfl, rfl, rfl, rfl⟩
      · exact ⟨⟨f11, fd11, d11.ps, g11, F11.kp, o11, bindsK F11 (fun _ _ _ _ _ _ ws ys hl hy => match ws, hl, hy with | [a0], _, hy => by cases hy; rfl)⟩, rfl⟩
      · exact ⟨⟨f12, fd12, d12.ps, g12, F12.kp, o12, bindsK F12 (fun _ _ _ _ _ _ ws ys hl hy => match ws, hl, hy with | [a0], _, hy => by cases hy; rfl)⟩, rfl⟩
      · exact ⟨⟨f13, fd13, d13.ps, g13, F13.kp, o13, bindsK F13 (fun _ _ _ _ _ _ ws ys hl hy => match ws, hl, hy with | [a0], _, hy => by cases hy; rfl)⟩, rfl⟩
      · exact ⟨⟨f14, fd14, d14.ps, g14, F14.kp, o14, bindsK F14 (fun _ _ _ _ _ _ ws ys hl hy => match ws, hl, hy with | [a0], _, hy => by cases hy; rfl)⟩, rfl⟩
end LW
end
section
set_option maxHeartbeats 0
namespace LW
open PySem PySem.Spec PyProof.Rows L2 PV
def dd (x : Str) (i : Nat) : He.DefD := ⟨(x, none), x, x, defArgs (top i), defBody (top i), defScope (top i), [], []⟩
def fn : List He.DefD := [dd "is_whole" 1, dd "is_rising" 2, dd "is_bracket" 11, dd "is_scale" 12, dd "need_scale" 13, dd "paid_at" 14, dd "paid_up_to" 15, dd "reach_of" 16, dd "first_pair" 17, dd "most_pair" 18, dd "first_split" 19, dd "first_join" 20, dd "most_split" 21, dd "most_join" 22, dd "_law_begun" 24, dd "_law_blended" 25, dd "_law_draw" 26, dd "_law_pick" 27, dd "_law_sc_paid" 28, dd "_law_sc_scale" 29, dd "_law_sc_step" 30, dd "_law_sc_own" 31, dd "_law_sc_stretched" 32, dd "_law_k36_due" 33, dd "_law_k36_great" 34, dd "_law_k36_parts" 35, dd "_law_k36_formulas" 36, dd "_law_k36_stretched" 37, dd "law" 38]
def fa0 : List He.Fa := [.glo "is_whole", .glo "is_rising", .glo "is_bracket", .glo "is_scale", .glo "need_scale", .glo "paid_at", .glo "paid_up_to", .glo "reach_of", .glo "first_pair", .glo "most_pair", .glo "first_split", .glo "first_join", .glo "most_split", .glo "most_join", .glo "_law_begun", .glo "_law_blended", .glo "_law_draw", .glo "_law_pick", .glo "_law_sc_paid", .glo "_law_sc_scale", .glo "_law_sc_step", .glo "_law_sc_own", .glo "_law_sc_stretched", .glo "_law_k36_due", .glo "_law_k36_great", .glo "_law_k36_parts", .glo "_law_k36_formulas", .glo "_law_k36_stretched", .glo "law", .free "abs"]
def fa1 : List He.Fa := [.free "max", .free "min", .free "len", .free "sum", .free "all", .free "any", .free "sorted", .free "list", .free "tuple", .free "int", .free "bool", .free "str", .free "isinstance", .free "range", .free "zip", .free "enumerate", .int "MOST_BRACKETS" 6, .int "MOST_START" 400, .int "MOST_BASE" 2000, .int "MOST_R" 20, .exc "HoweverError", .exc "BadScale", .glo "HoweverError", .glo "BadScale"]
def fa : List He.Fa := fa0 ++ fa1
def loose0 : List PySem.Str := ["is_whole", "is_rising", "is_bracket", "is_scale", "need_scale", "paid_at", "paid_up_to", "reach_of", "first_pair", "most_pair", "first_split", "first_join", "most_split", "most_join", "_law_begun", "_law_blended", "_law_draw", "_law_pick", "_law_sc_paid", "_law_sc_scale", "_law_sc_step", "_law_sc_own", "_law_sc_stretched", "_law_k36_due", "_law_k36_great", "_law_k36_parts", "_law_k36_formulas", "_law_k36_stretched", "MOST_BRACKETS", "MOST_START"]
def loose1 : List PySem.Str := ["MOST_BASE", "MOST_R", "HoweverError", "BadScale"]
def loose : List PySem.Str := loose0 ++ loose1
abbrev R : PySem.W.OpenRow := PySem.W.OpenLaw.row PySem.Challenge.rw_samehowever_k36_whole_splitting_and_join
abbrev hk : PySem.W.Hook := He.hookD 4 fa fn
def ob (s : PySem.W.SharedT) : He.AlD := He.obsDG 4 fa fn (HandSHeadRun.getT s)
theorem ob_eq (s : PySem.W.SharedT) : ob s = hk.obs s.abs := He.obsDG_eq (HandSHeadRun.getT_eq s)
theorem run (w : World) : HandSHeadRun.RunEq R (PySem.W.view R.prog [38]) hk ob 4000 loose w := by
  intro os
  kernel_rfl
def cadK (K : PySem.W.Frag) (k : Nat) : Addr := match cls.lookup k with
  | some x => He.ga K x
  | none => 0
theorem base_of {P : Program} {w : World} {K : PySem.W.Frag} {h : Heap} {mg : Str → Option Value} (X : K.In h) (G : h.Ns mainGlobals mg) (c : He.SaysD fa fn K) (base : Heap) (s gr ce : Addr) : Base (gD P w K mg base (cadK K) s gr ce) := by
  obtain ⟨e0, E0⟩ := c.def_ 0 (d := dd "is_whole" 1) rfl
  have m0 := He.glo_ok X G (c.fact 0 (f := .glo "is_whole") rfl)
  obtain ⟨e1, E1⟩ := c.def_ 1 (d := dd "is_rising" 2) rfl
  have m1 := He.glo_ok X G (c.fact 1 (f := .glo "is_rising") rfl)
  obtain ⟨e2, E2⟩ := c.def_ 2 (d := dd "is_bracket" 11) rfl
  have m2 := He.glo_ok X G (c.fact 2 (f := .glo "is_bracket") rfl)
  obtain ⟨e3, E3⟩ := c.def_ 3 (d := dd "is_scale" 12) rfl
  have m3 := He.glo_ok X G (c.fact 3 (f := .glo "is_scale") rfl)
  obtain ⟨e4, E4⟩ := c.def_ 4 (d := dd "need_scale" 13) rfl
  have m4 := He.glo_ok X G (c.fact 4 (f := .glo "need_scale") rfl)
  obtain ⟨e5, E5⟩ := c.def_ 5 (d := dd "paid_at" 14) rfl
  have m5 := He.glo_ok X G (c.fact 5 (f := .glo "paid_at") rfl)
  obtain ⟨e6, E6⟩ := c.def_ 6 (d := dd "paid_up_to" 15) rfl
  have m6 := He.glo_ok X G (c.fact 6 (f := .glo "paid_up_to") rfl)
  obtain ⟨e7, E7⟩ := c.def_ 7 (d := dd "reach_of" 16) rfl
  have m7 := He.glo_ok X G (c.fact 7 (f := .glo "reach_of") rfl)
  obtain ⟨e8, E8⟩ := c.def_ 8 (d := dd "first_pair" 17) rfl
  have m8 := He.glo_ok X G (c.fact 8 (f := .glo "first_pair") rfl)
  obtain ⟨e9, E9⟩ := c.def_ 9 (d := dd "most_pair" 18) rfl
  have m9 := He.glo_ok X G (c.fact 9 (f := .glo "most_pair") rfl)
  obtain ⟨e10, E10⟩ := c.def_ 10 (d := dd "first_split" 19) rfl
  have m10 := He.glo_ok X G (c.fact 10 (f := .glo "first_split") rfl)
  obtain ⟨e11, E11⟩ := c.def_ 11 (d := dd "first_join" 20) rfl
  have m11 := He.glo_ok X G (c.fact 11 (f := .glo "first_join") rfl)
  obtain ⟨e12, E12⟩ := c.def_ 12 (d := dd "most_split" 21) rfl
  have m12 := He.glo_ok X G (c.fact 12 (f := .glo "most_split") rfl)
  obtain ⟨e13, E13⟩ := c.def_ 13 (d := dd "most_join" 22) rfl
  have m13 := He.glo_ok X G (c.fact 13 (f := .glo "most_join") rfl)
  obtain ⟨e15, E15⟩ := c.def_ 15 (d := dd "_law_blended" 25) rfl
  have m15 := He.glo_ok X G (c.fact 15 (f := .glo "_law_blended") rfl)
  obtain ⟨e16, E16⟩ := c.def_ 16 (d := dd "_law_draw" 26) rfl
  have m16 := He.glo_ok X G (c.fact 16 (f := .glo "_law_draw") rfl)
  obtain ⟨e17, E17⟩ := c.def_ 17 (d := dd "_law_pick" 27) rfl
  have m17 := He.glo_ok X G (c.fact 17 (f := .glo "_law_pick") rfl)
  obtain ⟨e18, E18⟩ := c.def_ 18 (d := dd "_law_sc_paid" 28) rfl
  have m18 := He.glo_ok X G (c.fact 18 (f := .glo "_law_sc_paid") rfl)
  obtain ⟨e19, E19⟩ := c.def_ 19 (d := dd "_law_sc_scale" 29) rfl
  have m19 := He.glo_ok X G (c.fact 19 (f := .glo "_law_sc_scale") rfl)
  obtain ⟨e20, E20⟩ := c.def_ 20 (d := dd "_law_sc_step" 30) rfl
  have m20 := He.glo_ok X G (c.fact 20 (f := .glo "_law_sc_step") rfl)
  obtain ⟨e21, E21⟩ := c.def_ 21 (d := dd "_law_sc_own" 31) rfl
  have m21 := He.glo_ok X G (c.fact 21 (f := .glo "_law_sc_own") rfl)
  obtain ⟨e22, E22⟩ := c.def_ 22 (d := dd "_law_sc_stretched" 32) rfl
  have m22 := He.glo_ok X G (c.fact 22 (f := .glo "_law_sc_stretched") rfl)
  obtain ⟨e23, E23⟩ := c.def_ 23 (d := dd "_law_k36_due" 33) rfl
  have m23 := He.glo_ok X G (c.fact 23 (f := .glo "_law_k36_due") rfl)
  obtain ⟨e24, E24⟩ := c.def_ 24 (d := dd "_law_k36_great" 34) rfl
  have m24 := He.glo_ok X G (c.fact 24 (f := .glo "_law_k36_great") rfl)
  obtain ⟨e25, E25⟩ := c.def_ 25 (d := dd "_law_k36_parts" 35) rfl
  have m25 := He.glo_ok X G (c.fact 25 (f := .glo "_law_k36_parts") rfl)
  obtain ⟨e26, E26⟩ := c.def_ 26 (d := dd "_law_k36_formulas" 36) rfl
  have m26 := He.glo_ok X G (c.fact 26 (f := .glo "_law_k36_formulas") rfl)
  obtain ⟨e27, E27⟩ := c.def_ 27 (d := dd "_law_k36_stretched" 37) rfl
  have m27 := He.glo_ok X G (c.fact 27 (f := .glo "_law_k36_stretched") rfl)
  have fr : ∀ x ∈ freeNames, mg x = none := by
    intro x hx
    simp only [freeNames, List.mem_cons, List.not_mem_nil, or_false] at hx
    rcases hx with rfl | rfl | rfl | rfl | rfl | rfl | rfl | rfl | rfl | rfl | rfl | rfl | rfl | rfl | rfl | rfl | rfl
    · exact He.free_ok X G (c.fact 29 (f := .free "abs") rfl)
    · exact He.free_ok X G (c.fact 30 (f := .free "max") rfl)
    · exact He.free_ok X G (c.fact 31 (f := .free "min") rfl)
    · exact He.free_ok X G (c.fact 32 (f := .free "len") rfl)
    · exact He.free_ok X G (c.fact 33 (f := .free "sum") rfl)
    · exact He.free_ok X G (c.fact 34 (f := .free "all") rfl)
    · exact He.free_ok X G (c.fact 35 (f := .free "any") rfl)
    · exact He.free_ok X G (c.fact 36 (f := .free "sorted") rfl)
    · exact He.free_ok X G (c.fact 37 (f := .free "list") rfl)
    · exact He.free_ok X G (c.fact 38 (f := .free "tuple") rfl)
    · exact He.free_ok X G (c.fact 39 (f := .free "int") rfl)
    · exact He.free_ok X G (c.fact 40 (f := .free "bool") rfl)
    · exact He.free_ok X G (c.fact 41 (f := .free "str") rfl)
    · exact He.free_ok X G (c.fact 42 (f := .free "isinstance") rfl)
    · exact He.free_ok X G (c.fact 43 (f := .free "range") rfl)
    · exact He.free_ok X G (c.fact 44 (f := .free "zip") rfl)
    · exact He.free_ok X G (c.fact 45 (f := .free "enumerate") rfl)
  have OD := ok_draw (P := P) (w := w) (mg := mg) (base := base) (s := s) (gr := gr) (ce := ce) E16 E15 (fr "int" (by decide +kernel)) m15
  have bD : Binds K e16 ["state", "size_here"] [] := E16.bindsN fun _ _ _ _ _ _ us hl => match us, hl with | [_, _], _ => rfl
  refine ⟨⟨_, _, E0, m0⟩, ⟨_, _, E1, m1⟩, ⟨_, _, E2, m2⟩, ⟨_, _, E3, m3⟩, ⟨_, _, E4, m4⟩, ⟨_, _, E5, m5⟩, ⟨_, _, E6, m6⟩, ⟨_, _, E7, m7⟩, ⟨_, _, E8, m8⟩, ⟨_, _, E9, m9⟩, ⟨_, _, E10, m10⟩, ⟨_, _, E11, m11⟩, ⟨_, _, E12, m12⟩, ⟨_, _, E13, m13⟩, ⟨_, _, E17, m17⟩, ⟨_, _, E18, m18⟩, ⟨_, _, E19, m19⟩, ⟨_, _, E20, m20⟩, ⟨_, _, E21, m21⟩, ⟨_, _, E22, m22⟩, ⟨_, _, E23, m23⟩, ⟨_, _, E24, m24⟩, ⟨_, _, E25, m25⟩, ⟨_, _, E26, m26⟩, ⟨_, _, E27, m27⟩, fr, fun x i hx => ?_, fun k x hx => ?_, fun n hn => fne_draw hn OD m16 E16.kp bD, ⟨_, _, m16, E16.kp, bD⟩⟩
  · simp only [cons, List.mem_cons, List.not_mem_nil, or_false, Prod.mk.injEq] at hx
    rcases hx with ⟨rfl, rfl⟩ | ⟨rfl, rfl⟩ | ⟨rfl, rfl⟩ | ⟨rfl, rfl⟩
    · exact He.int_ok X G (c.fact 46 (f := .int "MOST_BRACKETS" 6) rfl)
    · exact He.int_ok X G (c.fact 47 (f := .int "MOST_START" 400) rfl)
    · exact He.int_ok X G (c.fact 48 (f := .int "MOST_BASE" 2000) rfl)
    · exact He.int_ok X G (c.fact 49 (f := .int "MOST_R" 20) rfl)
  · simp only [LW.cls, List.mem_cons, List.not_mem_nil, or_false, Prod.mk.injEq] at hx
    rcases hx with ⟨rfl, rfl⟩ | ⟨rfl, rfl⟩
    · obtain ⟨c1, c2, c3, c4⟩ := He.exc_ok (c.fact 50 (f := .exc "HoweverError") rfl)
      exact ⟨He.glo_ok X G (c.fact 52 (f := .glo "HoweverError") rfl), c2, c1, c3, c4⟩
    · obtain ⟨c1, c2, c3, c4⟩ := He.exc_ok (c.fact 51 (f := .exc "BadScale") rfl)
      exact ⟨He.glo_ok X G (c.fact 53 (f := .glo "BadScale") rfl), c2, c1, c3, c4⟩
theorem law_facts (hT : ∀ ns : List Int, ns.length ≤ 63 → (ex (callF tab WH 12) WH dL.body (startE dL.N [.scr ns, .sta])).All (fun _ fl => fl = .rt (.bl true)) (fun _ _ => False) LIM)
    {P : Program} {w : World} {K : PySem.W.Frag} {h : Heap} {mg : Str → Option Value} {f : Addr} (X : K.In h) (G : h.Ns mainGlobals mg) (hfa : mg ("law" : Str) = some (.ref f)) (c : He.SaysD fa fn K) :
    ∃ fd : FuncData, (∀ (s : Shared) (v : Value), BindsTo s fd ⟨[v], []⟩ [("script", v)]) ∧ ∀ base : Heap, K.In base → base.Ns mainGlobals mg → FnOk P w K mg base CX0 13 f fd ["script"] (spLaw K) := by
  obtain ⟨fd, F⟩ := c.def_ 28 (d := dd "law" 38) rfl
  obtain ⟨fdG, FG⟩ := c.def_ 14 (d := dd "_law_begun" 24) rfl
  have e := hfa.symm.trans (He.glo_ok X G (c.fact 28 (f := .glo "law") rfl))
  cases e
  have b := FunD.bindsA (ps := ["script"]) F fun _ _ _ _ _ _ us hl => match us, hl with | [_], _ => rfl
  refine ⟨fd, fun s v => b s [v] rfl, fun base _ _ => ?_⟩
  have B := fun s gr ce => base_of (P := P) (w := w) X G c base s gr ce
  have hg := He.glo_ok X G (c.fact 14 (f := .glo "_law_begun") rfl)
  have bG : Binds K fdG ["script"] [] := FG.bindsN fun _ _ _ _ _ _ us hl => match us, hl with | [_], _ => rfl
  have OG := ok_begun (P := P) (w := w) (base := base) FG (B 0 0 0).free
  exact law_ok (ck := ckL) (n := 12) (wh := WH) (Pt := tab) (body := dL.body) (s0 := (defBody (top 38)).getD 0 (.Pass ⟨0, 0, 0, 0⟩)) (rest := (defBody (top 38)).drop 1) F scL (show 2 ≤ dL.N.length by decide) (fun s gr ce => facts (B s gr ce) (at_ (B s gr ce) 12) scL.nd rfl rfl rfl) rfl
    (fun cdv A outer s H E hr => ps_set (i := 1) scL.nd rfl (Or.inl rfl) (pe_call OG (hr.mono (by decide)) rfl hg FG.kp bG .nil pass0 (pa_cons (pv 0) pa_nil))) rfl chL hT
end LW
end
section
set_option maxHeartbeats 400000
/-! the plain law of splitting and joining -/
namespace LW
def rng (lo hi : Int) : List Int := (List.range (hi - lo).toNat).map fun k => lo + (k : Nat)
theorem mem_rng {lo hi x : Int} : x ∈ rng lo hi ↔ lo ≤ x ∧ x < hi := by
  unfold rng
  rw [List.mem_map]
  constructor
  · rintro ⟨k, hk, rfl⟩
    rw [List.mem_range] at hk
    omega
  · intro h
    exact ⟨(x - lo).toNat, by rw [List.mem_range]; omega, by omega⟩
theorem rng_sorted {lo hi : Int} : (rng lo hi).Pairwise (· < ·) := by
  unfold rng
  rw [List.pairwise_map]
  exact List.pairwise_lt_range.imp fun h => by omega
def lexlt (a b : Int × Int) : Prop := a.1 < b.1 ∨ (a.1 = b.1 ∧ a.2 < b.2)
theorem pairs_sorted {lo hi : Int} {f g : Int → Int} : ((rng lo hi).flatMap fun T => (rng (f T) (g T)).map fun o => (T, o)).Pairwise lexlt := by
  rw [List.pairwise_flatMap]
  refine ⟨fun T _ => ?_, rng_sorted.imp fun h x hx y hy => ?_⟩
  · rw [List.pairwise_map]
    exact rng_sorted.imp fun h => .inr ⟨rfl, h⟩
  · obtain ⟨o, _, rfl⟩ := List.mem_map.mp hx
    obtain ⟨o', _, rfl⟩ := List.mem_map.mp hy
    exact .inl h
theorem mem_pairs {lo hi : Int} {f g : Int → Int} {x : Int × Int} : x ∈ ((rng lo hi).flatMap fun T => (rng (f T) (g T)).map fun o => (T, o)) ↔ lo ≤ x.1 ∧ x.1 < hi ∧ f x.1 ≤ x.2 ∧ x.2 < g x.1 := by
  rw [List.mem_flatMap]
  constructor
  · rintro ⟨T, hT, hx⟩
    obtain ⟨o, ho, rfl⟩ := List.mem_map.mp hx
    rw [mem_rng] at hT ho
    exact ⟨hT.1, hT.2, ho.1, ho.2⟩
  · rintro ⟨h1, h2, h3, h4⟩
    exact ⟨x.1, mem_rng.mpr ⟨h1, h2⟩, List.mem_map.mpr ⟨x.2, mem_rng.mpr ⟨h3, h4⟩, rfl⟩⟩
/-- the first one of a list in order -/
theorem find_first {L : List (Int × Int)} {p : Int × Int → Bool} (s : L.Pairwise lexlt) {x : Int × Int} (h : L.find? p = some x) : p x = true ∧ x ∈ L ∧ ∀ y ∈ L, p y = true → y = x ∨ lexlt x y := by
  induction L with
  | nil => cases h
  | cons a L ih =>
    rw [List.pairwise_cons] at s
    rw [List.find?_cons] at h
    cases q : p a with
    | true =>
      rw [q] at h
      cases h
      exact ⟨q, List.mem_cons_self, fun y hy _ => by
        rcases List.mem_cons.mp hy with e | e
        · exact .inl e
        · exact .inr (s.1 y e)⟩
    | false =>
      rw [q] at h
      obtain ⟨h1, h2, h3⟩ := ih s.2 h
      refine ⟨h1, List.mem_cons_of_mem _ h2, fun y hy hp => ?_⟩
      rcases List.mem_cons.mp hy with e | e
      · subst e; rw [q] at hp; cases hp
      · exact h3 y e hp
theorem lex_irrefl {a : Int × Int} : ¬ lexlt a a := fun h => by
  rcases h with h | ⟨_, h⟩ <;> omega
theorem lex_trans {a b c : Int × Int} (h : lexlt a b) (k : lexlt b c) : lexlt a c := by
  unfold lexlt at *
  omega
theorem find_eq {L1 L2 : List (Int × Int)} {p : Int × Int → Bool} (s1 : L1.Pairwise lexlt) (s2 : L2.Pairwise lexlt) (h1 : ∀ x ∈ L1, x ∈ L2) (h2 : ∀ x ∈ L2, p x = true → ∃ y ∈ L1, p y = true ∧ (y = x ∨ lexlt y x)) : L1.find? p = L2.find? p := by
  cases e1 : L1.find? p with
  | none =>
    cases e2 : L2.find? p with
    | none => rfl
    | some x =>
      obtain ⟨k1, k2, _⟩ := find_first s2 e2
      obtain ⟨y, hy, hp, _⟩ := h2 x k2 k1
      rw [List.find?_eq_none] at e1
      exact absurd hp (e1 y hy)
  | some x =>
    obtain ⟨k1, k2, k3⟩ := find_first s1 e1
    cases e2 : L2.find? p with
    | none =>
      rw [List.find?_eq_none] at e2
      exact absurd k1 (e2 x (h1 x k2))
    | some z =>
      obtain ⟨m1, m2, m3⟩ := find_first s2 e2
      obtain ⟨y, hy, hp, hyz⟩ := h2 z m2 m1
      have a : x = z ∨ lexlt z x := m3 x (h1 x k2) k1
      have b : y = x ∨ lexlt x y := k3 y hy hp
      rcases a with a | a
      · rw [a]
      · exfalso
        rcases b with b | b
        · rw [b] at hyz
          rcases hyz with e | e
          · rw [e] at a; exact lex_irrefl a
          · exact lex_irrefl (lex_trans a e)
        · rcases hyz with e | e
          · rw [e] at b; exact lex_irrefl (lex_trans a b)
          · exact lex_irrefl (lex_trans a (lex_trans b e))

/-! ### what a scale gains by a cut -/
def gn (f : Int → Int) (x y : Int) : Int := f x + f y - f (x + y)
theorem gn_symm {f : Int → Int} {x y : Int} : gn f x y = gn f y x := by unfold gn; rw [Int.add_comm x y]; omega
/-- the last bracket repeats itself -/
structure Per (f : Int → Int) (a r : Int) : Prop where
  a0 : 0 ≤ a
  r1 : 1 ≤ r
  per : ∃ p, ∀ x, a ≤ x → f (x + r) = f x + p
section
variable {f : Int → Int} {a r : Int}
theorem red1 (P : Per f a r) (y : Int) (hy : 1 ≤ y) : ∀ (n : Nat) (x : Int), x.toNat ≤ n → 1 ≤ x → ∃ x', 1 ≤ x' ∧ x' ≤ a + r ∧ x' ≤ x ∧ gn f x' y = gn f x y
  | 0, x, h, h1 => by omega
  | n + 1, x, h, h1 => by
    by_cases c : x ≤ a + r
    · exact ⟨x, h1, c, Int.le_refl _, rfl⟩
    · obtain ⟨p, hp⟩ := P.per
      have r1 := P.r1
      have a0 := P.a0
      obtain ⟨x', k1, k2, k3, k4⟩ := red1 P y hy n (x - r) (by omega) (by omega)
      refine ⟨x', k1, k2, by omega, ?_⟩
      rw [k4]
      unfold gn
      have e1 := hp (x - r) (by omega)
      have e2 := hp (x - r + y) (by omega)
      rw [show x - r + r = x by omega] at e1
      rw [show x - r + y + r = x + y by omega] at e2
      omega
theorem red (P : Per f a r) {x y : Int} (hx : 1 ≤ x) (hy : 1 ≤ y) : ∃ x' y', 1 ≤ x' ∧ x' ≤ a + r ∧ x' ≤ x ∧ 1 ≤ y' ∧ y' ≤ a + r ∧ y' ≤ y ∧ gn f x' y' = gn f x y := by
  obtain ⟨x', h1, h2, h3, h4⟩ := red1 P y hy x.toNat x (Nat.le_refl _) hx
  obtain ⟨y', k1, k2, k3, k4⟩ := red1 P x' h1 y.toNat y (Nat.le_refl _) hy
  exact ⟨x', y', h1, h2, h3, k1, k2, k3, by rw [gn_symm, k4, gn_symm, h4]⟩
def LL (Q : Int) : List (Int × Int) := (rng 2 (2 * Q + 1)).flatMap fun T => (rng 1 T).map fun o => (T, o)
def LP (R : Int) : List (Int × Int) := (rng 2 (2 * R + 1)).flatMap fun T => (rng (max 1 (T - R)) (T / 2 + 1)).map fun o => (T, o)
def hit (f : Int → Int) (sg t : Int) (x : Int × Int) : Bool := decide (sg * gn f x.2 (x.1 - x.2) ≥ t)
/-- the first pair is found where the module looks for it -/
theorem first_eq (P : Per f a r) {Q : Int} (hQ : a + r ≤ Q) (sg t : Int) : (LP (a + r)).find? (hit f sg t) = (LL Q).find? (hit f sg t) := by
  have r1 := P.r1
  have a0 := P.a0
  refine find_eq pairs_sorted pairs_sorted (fun x hx => ?_) fun x hx hp => ?_
  · have h := mem_pairs.mp hx
    exact mem_pairs.mpr ⟨h.1, by omega, by omega, by omega⟩
  · have h := mem_pairs.mp hx
    have hp := of_decide_eq_true hp
    obtain ⟨x', y', k1, k2, k3, k4, k5, k6, k7⟩ := red P (x := x.2) (y := x.1 - x.2) (by omega) (by omega)
    have big : ∀ u v : Int, 1 ≤ u → u ≤ v → v ≤ a + r → u + v ≤ x.1 → (u + v = x.1 → u ≤ x.2) → gn f u v = gn f x.2 (x.1 - x.2) → ∃ y ∈ LP (a + r), hit f sg t y = true ∧ (y = x ∨ lexlt y x) := fun u v h1 h2 h3 h4 h5 h6 => by
      refine ⟨(u + v, u), mem_pairs.mpr ⟨by show 2 ≤ u + v; omega, by show u + v < 2 * (a + r) + 1; omega, by show max 1 (u + v - (a + r)) ≤ u; omega, by show u < (u + v) / 2 + 1; omega⟩, ?_, ?_⟩
      · unfold hit
        show decide (sg * gn f u (u + v - u) ≥ t) = true
        rw [show u + v - u = v by omega, h6]
        exact decide_eq_true hp
      · obtain ⟨T, o⟩ := x
        show (u + v, u) = (T, o) ∨ lexlt (u + v, u) (T, o)
        unfold lexlt
        show (u + v, u) = (T, o) ∨ (u + v < T ∨ (u + v = T ∧ u < o))
        by_cases c : u + v = T
        · have := h5 c
          by_cases d : u = o
          · left; rw [c, d]
          · right; right; exact ⟨c, by have : u ≤ o := this; omega⟩
        · right; left
          have : u + v ≤ T := h4
          omega
    by_cases c : x' ≤ y'
    · exact big x' y' k1 c k5 (by omega) (fun e => by omega) k7
    · exact big y' x' k4 (by omega) k2 (by omega) (fun e => by omega) (by rw [gn_symm]; exact k7)
/-- no pair gains more than those that the module looks at -/
theorem all_le (P : Per f a r) {sg M : Int} (h : ∀ x y, 1 ≤ x → x ≤ y → y ≤ a + r → sg * gn f x y ≤ M) {x y : Int} (hx : 1 ≤ x) (hy : 1 ≤ y) : sg * gn f x y ≤ M := by
  obtain ⟨x', y', k1, k2, k3, k4, k5, k6, k7⟩ := red P hx hy
  rw [← k7]
  by_cases c : x' ≤ y'
  · exact h x' y' k1 c k5
  · rw [gn_symm]
    exact h y' x' k4 (by omega) k2
/-- parts of what is never paid more apart -/
theorem parts_le (h : ∀ x y : Int, 1 ≤ x → 1 ≤ y → gn f x y ≤ 0) : ∀ (l : List Int) (x : Int), 1 ≤ x → (∀ y ∈ l, 1 ≤ y) → f x + (l.map f).sum ≤ f (x + l.sum)
  | [], x, _, _ => by simp
  | y :: l, x, hx, hl => by
    have h1 := parts_le h l (x + y) (by have := hl y List.mem_cons_self; omega) fun z hz => hl z (List.mem_cons_of_mem _ hz)
    have h2 := h x y hx (hl y List.mem_cons_self)
    unfold gn at h2
    rw [List.map_cons, List.sum_cons, List.sum_cons]
    rw [show x + (y + l.sum) = x + y + l.sum by omega]
    omega
end
end LW
end
section
set_option maxHeartbeats 400000
namespace LW
/-! ### scales -/
structure Br where
  s : Int
  b : Int
  p : Int
  r : Int
def stepP (a : Int) (f : Int) (k : Br) : Int := if k.s ≤ a then k.b + (a - k.s) * k.p / k.r else f
def pay (l : List Br) (a : Int) : Int := l.foldl (stepP a) 0
structure VB (k : Br) : Prop where
  s0 : 0 ≤ k.s
  s1 : k.s ≤ 400
  b0 : 0 ≤ k.b
  b1 : k.b ≤ 2000
  r0 : 1 ≤ k.r
  r1 : k.r ≤ 20
  p0 : 0 ≤ k.p
  p1 : k.p ≤ 3 * k.r
structure VS (l : List Br) : Prop where
  len : l.length ≤ 6
  vb : ∀ k ∈ l, VB k
  inc : l.Pairwise fun x y => x.s < y.s
  hd : ∃ k t, l = k :: t ∧ k.s = 0 ∧ k.b = 0
theorem pay_append {l m : List Br} {a : Int} : pay (l ++ m) a = m.foldl (stepP a) (pay l a) := List.foldl_append
theorem pay_last {l : List Br} {k : Br} {a : Int} (h : k.s ≤ a) : pay (l ++ [k]) a = k.b + (a - k.s) * k.p / k.r := by
  rw [pay_append]
  show stepP a _ k = _
  unfold stepP
  rw [if_pos h]
theorem pay_skip {l : List Br} {k : Br} {a : Int} (h : a < k.s) : pay (l ++ [k]) a = pay l a := by
  rw [pay_append]
  show stepP a _ k = _
  unfold stepP
  rw [if_neg (by omega)]
/-- beyond the last bracket's start it goes on alike -/
theorem pay_per {l : List Br} {k : Br} (h0 : 0 ≤ k.s) (h1 : 1 ≤ k.r) : Per (pay (l ++ [k])) k.s k.r := by
  refine ⟨h0, h1, k.p, fun x hx => ?_⟩
  rw [pay_last hx, pay_last (by omega)]
  rw [show (x + k.r - k.s) * k.p = (x - k.s) * k.p + k.p * k.r by rw [show x + k.r - k.s = (x - k.s) + k.r by omega, Int.add_mul, Int.mul_comm k.r k.p]]
  rw [Int.add_mul_ediv_right _ _ (by omega)]
  omega
theorem foldl_nn {a : Int} : ∀ (l : List Br) (f : Int), 0 ≤ f → (∀ k ∈ l, VB k) → 0 ≤ l.foldl (stepP a) f
  | [], f, h, _ => h
  | k :: l, f, h, hv => by
    refine foldl_nn l _ ?_ fun x hx => hv x (List.mem_cons_of_mem _ hx)
    have v := hv k List.mem_cons_self
    unfold stepP
    split
    · have : 0 ≤ (a - k.s) * k.p / k.r := Int.ediv_nonneg (Int.mul_nonneg (by omega) v.p0) (by have := v.r0; omega)
      have := v.b0
      omega
    · exact h
theorem pay_nn {l : List Br} (h : ∀ k ∈ l, VB k) (a : Int) : 0 ≤ pay l a := foldl_nn l 0 (Int.le_refl _) h
theorem foldl_skip {a : Int} : ∀ (l : List Br) (f : Int), (∀ k ∈ l, a < k.s) → l.foldl (stepP a) f = f
  | [], _, _ => rfl
  | k :: l, f, h => by
    rw [List.foldl_cons, show stepP a f k = f by unfold stepP; rw [if_neg (by have := h k List.mem_cons_self; omega)]]
    exact foldl_skip l f fun x hx => h x (List.mem_cons_of_mem _ hx)
/-- the bracket that counts -/
def lineAt (a : Int) (k : Br) : Int := k.b + (a - k.s) * k.p / k.r
theorem foldl_filter {a : Int} : ∀ (l : List Br) (f : Int), l.foldl (stepP a) f = ((l.filter fun k => decide (k.s ≤ a)).getLast?.map (lineAt a)).getD f
  | [], _ => rfl
  | k :: l, f => by
    rw [List.foldl_cons, foldl_filter l]
    by_cases h : k.s ≤ a
    · rw [List.filter_cons_of_pos (by simpa using h), List.getLast?_cons, show stepP a f k = lineAt a k by unfold stepP; rw [if_pos h]; rfl]
      cases (l.filter fun k => decide (k.s ≤ a)).getLast? <;> rfl
    · rw [List.filter_cons_of_neg (by simpa using h), show stepP a f k = f by unfold stepP; rw [if_neg h]]
theorem pay_filter {l : List Br} {a : Int} : pay l a = ((l.filter fun k => decide (k.s ≤ a)).getLast?.map (lineAt a)).getD 0 := foldl_filter l 0
theorem pay_zero {l : List Br} (v : VS l) : pay l 0 = 0 := by
  obtain ⟨k, t, rfl, h1, h2⟩ := v.hd
  have hi := v.inc
  rw [List.pairwise_cons] at hi
  show t.foldl (stepP 0) (stepP 0 0 k) = 0
  rw [foldl_skip t _ fun x hx => by have := hi.1 x hx; omega]
  unfold stepP
  rw [if_pos (by omega), h1, h2]
  simp
theorem VS.last {l : List Br} (v : VS l) : ∃ m k, l = m ++ [k] ∧ VB k := by
  obtain ⟨k, t, e, _⟩ := v.hd
  have hne : l ≠ [] := by rw [e]; exact List.cons_ne_nil _ _
  exact ⟨l.dropLast, l.getLast hne, (List.dropLast_concat_getLast hne).symm, v.vb _ (List.getLast_mem hne)⟩

/-! ### stretched -/
def strB (k : Int) (x : Br) : Br := ⟨k * x.s, x.b, x.p, k * x.r⟩
theorem str_div {k a s p r : Int} (hk : 1 ≤ k) (hr : 1 ≤ r) (hp : p = 0 ∨ p = 1) (hs : k * s ≤ a) : (a - k * s) * p / (k * r) = (a / k - s) * p / r := by
  rcases hp with rfl | rfl
  · simp
  · rw [Int.mul_one, Int.mul_one, ← Int.ediv_ediv_of_nonneg (by omega), Int.sub_mul_ediv_left _ _ (by omega)]
theorem pay_str {k : Int} (hk : 1 ≤ k) {l : List Br} (hv : ∀ x ∈ l, 1 ≤ x.r ∧ (x.p = 0 ∨ x.p = 1)) (a : Int) : pay (l.map (strB k)) a = pay l (a / k) := by
  unfold pay
  rw [List.foldl_map]
  have : ∀ (l : List Br) (f : Int), (∀ x ∈ l, 1 ≤ x.r ∧ (x.p = 0 ∨ x.p = 1)) → l.foldl (fun f x => stepP a f (strB k x)) f = l.foldl (stepP (a / k)) f := by
    intro l
    induction l with
    | nil => intro f _; rfl
    | cons x l ih =>
      intro f h
      have hx := h x List.mem_cons_self
      have e : stepP a f (strB k x) = stepP (a / k) f x := by
        unfold stepP strB
        have iff : k * x.s ≤ a ↔ x.s ≤ a / k := by rw [Int.le_ediv_iff_mul_le (by omega), Int.mul_comm]
        by_cases c : x.s ≤ a / k
        · rw [if_pos c, if_pos (iff.mpr c), str_div hk hx.1 hx.2 (iff.mpr c)]
        · rw [if_neg c, if_neg fun z => c (iff.mp z)]
      rw [List.foldl_cons, List.foldl_cons, e]
      exact ih _ fun y hy => h y (List.mem_cons_of_mem _ hy)
  exact this l 0 hv
/-- the least total at which a cut gains: of a stretched scale it is stretched -/
theorem str_total {f : Int → Int} (h0 : f 0 = 0) (nn : ∀ x, 0 ≤ f x) {k : Int} (hk : 1 ≤ k) :
    (∀ x y : Int, 1 ≤ x → 1 ≤ y → 0 < gn (fun z => f (z / k)) x y → ∃ u v, 1 ≤ u ∧ 1 ≤ v ∧ 0 < gn f u v ∧ k * (u + v) ≤ x + y) ∧
    (∀ u v : Int, 1 ≤ u → 1 ≤ v → gn (fun z => f (z / k)) (k * u) (k * v) = gn f u v) := by
  refine ⟨fun x y hx hy h => ?_, fun u v _ _ => ?_⟩
  · have q1 := Int.mul_ediv_add_emod x k
    have q2 := Int.mul_ediv_add_emod y k
    have m1 := Int.emod_nonneg x (b := k) (by omega)
    have m2 := Int.emod_nonneg y (b := k) (by omega)
    have n1 := Int.emod_lt_of_pos x (b := k) (by omega)
    have n2 := Int.emod_lt_of_pos y (b := k) (by omega)
    have p1 : 0 ≤ x / k := Int.ediv_nonneg (by omega) (by omega)
    have p2 : 0 ≤ y / k := Int.ediv_nonneg (by omega) (by omega)
    unfold gn at h
    have h : 0 < f (x / k) + f (y / k) - f ((x + y) / k) := h
    generalize hX : x / k = X at *
    generalize hY : y / k = Y at *
    generalize x % k = mx at *
    generalize y % k = my at *
    by_cases c : mx + my < k
    · have e : (x + y) / k = X + Y := by
        rw [← q1, ← q2, show k * X + mx + (k * Y + my) = mx + my + k * (X + Y) by rw [Int.mul_add]; omega, Int.add_mul_ediv_left _ _ (by omega), Int.ediv_eq_zero_of_lt (by omega) c]
        omega
      rw [e] at h
      have X1 : 1 ≤ X := by
        by_cases z : X = 0
        · simp only [z, h0, Int.zero_add, Int.add_zero] at h; omega
        · omega
      have Y1 : 1 ≤ Y := by
        by_cases z : Y = 0
        · simp only [z, h0, Int.zero_add, Int.add_zero] at h; omega
        · omega
      exact ⟨X, Y, X1, Y1, h, by rw [Int.mul_add]; omega⟩
    · have e : (x + y) / k = X + Y + 1 := by
        rw [← q1, ← q2, show k * X + mx + (k * Y + my) = mx + my - k + k * (X + Y + 1) by rw [Int.mul_add, Int.mul_add]; omega, Int.add_mul_ediv_left _ _ (by omega), Int.ediv_eq_zero_of_lt (by omega) (by omega)]
        omega
      rw [e] at h
      have hb : k * (X + Y + 1) ≤ x + y := by rw [Int.mul_add, Int.mul_add]; omega
      by_cases d : f (X + 1) < f X
      · have X1 : 1 ≤ X := by
          by_cases z : X = 0
          · rw [z, h0] at d; have := nn (0 + 1); omega
          · omega
        refine ⟨1, X, Int.le_refl _, X1, ?_, ?_⟩
        · unfold gn
          have := nn 1
          rw [Int.add_comm 1 X]
          omega
        · refine Int.le_trans ?_ hb
          exact Int.mul_le_mul_of_nonneg_left (by omega) (by omega)
      · have Y1 : 1 ≤ Y := by
          by_cases z : Y = 0
          · simp only [z, h0, Int.zero_add, Int.add_zero] at h; omega
          · omega
        refine ⟨X + 1, Y, by omega, Y1, ?_, ?_⟩
        · unfold gn
          rw [show X + 1 + Y = X + Y + 1 by omega]
          omega
        · rw [show X + 1 + Y = X + Y + 1 by omega]
          exact hb
  · unfold gn
    show f (k * u / k) + f (k * v / k) - f ((k * u + k * v) / k) = _
    rw [← Int.mul_add, Int.mul_ediv_cancel_left _ (by omega), Int.mul_ediv_cancel_left _ (by omega), Int.mul_ediv_cancel_left _ (by omega)]
end LW
end
section
set_option maxHeartbeats 400000
namespace LW
theorem foldmax (xs : List Int) : ∀ x : Int, x ≤ xs.foldl max x ∧ (∀ y ∈ xs, y ≤ xs.foldl max x) ∧ (xs.foldl max x = x ∨ xs.foldl max x ∈ xs) := by
  induction xs with
  | nil => intro x; simp
  | cons y ys ih =>
    intro x
    obtain ⟨h1, h2, h3⟩ := ih (max x y)
    rw [List.foldl_cons]
    refine ⟨by omega, fun z hz => ?_, ?_⟩
    · rcases List.mem_cons.mp hz with e | e
      · subst e; omega
      · exact h2 z e
    · rcases h3 with e | e
      · rw [e]
        by_cases q : x ≤ y
        · right; rw [show max x y = y by omega]; exact List.mem_cons_self
        · left; omega
      · right; exact List.mem_cons_of_mem _ e
def bigM (f : Int → Int) (sg R : Int) : Int := (rng 1 (R + 1)).foldl (fun m o => ((rng o (R + 1)).map fun y => sg * gn f o y).foldl max m) (sg * gn f 1 1)
structure IsMax (f : Int → Int) (sg R M : Int) : Prop where
  ub : ∀ x y, 1 ≤ x → x ≤ y → y ≤ R → sg * gn f x y ≤ M
  at_ : ∃ x y, 1 ≤ x ∧ x ≤ y ∧ y ≤ R ∧ sg * gn f x y = M
theorem bigM_max {f : Int → Int} {sg R : Int} (hR : 1 ≤ R) : IsMax f sg R (bigM f sg R) := by
  have e : bigM f sg R = ((rng 1 (R + 1)).flatMap fun o => (rng o (R + 1)).map fun y => sg * gn f o y).foldl max (sg * gn f 1 1) := by
    rw [List.foldl_flatMap]
    rfl
  rw [e]
  obtain ⟨h1, h2, h3⟩ := foldmax ((rng 1 (R + 1)).flatMap fun o => (rng o (R + 1)).map fun y => sg * gn f o y) (sg * gn f 1 1)
  refine ⟨fun x y a b c => h2 _ (List.mem_flatMap.mpr ⟨x, mem_rng.mpr ⟨a, by omega⟩, List.mem_map.mpr ⟨y, mem_rng.mpr ⟨b, by omega⟩, rfl⟩⟩), ?_⟩
  rcases h3 with e | e
  · exact ⟨1, 1, Int.le_refl _, Int.le_refl _, hR, e.symm⟩
  · obtain ⟨x, hx, e⟩ := List.mem_flatMap.mp e
    obtain ⟨y, hy, e⟩ := List.mem_map.mp e
    rw [mem_rng] at hx hy
    exact ⟨x, y, hx.1, hy.1, by omega, e⟩
theorem find_some {f : Int → Int} {sg R M : Int} (h : IsMax f sg R M) : ∃ x, (LP R).find? (hit f sg M) = some x := by
  cases e : (LP R).find? (hit f sg M) with
  | some x => exact ⟨x, rfl⟩
  | none =>
    exfalso
    rw [List.find?_eq_none] at e
    obtain ⟨x, y, a, b, c, d⟩ := h.at_
    refine e (x + y, x) (mem_pairs.mpr ⟨by show 2 ≤ x + y; omega, by show x + y < 2 * R + 1; omega, by show max 1 (x + y - R) ≤ x; omega, by show x < (x + y) / 2 + 1; omega⟩) ?_
    unfold hit
    show decide (sg * gn f x (x + y - x) ≥ M) = true
    rw [show x + y - x = y by omega, d]
    exact decide_eq_true (Int.le_refl _)
/-! ### what the law looks for -/
def val (f : Int → Int) (sg : Int) (x : Int × Int) : Int := sg * gn f x.2 (x.1 - x.2)
abbrev St := Option (Int × Int) × Option (Int × (Int × Int))
def dueStep (f : Int → Int) (sg : Int) (s : St) (x : Int × Int) : St :=
  (if 0 < val f sg x ∧ s.1 = none then some x else s.1, match s.2 with
    | none => some (val f sg x, x)
    | some m => if m.1 < val f sg x then some (val f sg x, x) else some m)
structure DueI (f : Int → Int) (sg : Int) (pre : List (Int × Int)) (s : St) : Prop where
  fst : s.1 = pre.find? (hit f sg 1)
  snd : match s.2 with
    | none => pre = []
    | some m => pre.find? (hit f sg m.1) = some m.2 ∧ val f sg m.2 = m.1 ∧ ∀ y ∈ pre, val f sg y ≤ m.1
theorem hit_val {f : Int → Int} {sg t : Int} {x : Int × Int} : hit f sg t x = decide (t ≤ val f sg x) := rfl
theorem due_inv {f : Int → Int} {sg : Int} : ∀ (L pre : List (Int × Int)) (s : St), DueI f sg pre s → DueI f sg (pre ++ L) (L.foldl (dueStep f sg) s)
  | [], pre, s, h => by rw [List.append_nil]; exact h
  | x :: L, pre, s, h => by
    rw [List.foldl_cons, show pre ++ x :: L = (pre ++ [x]) ++ L by simp]
    refine due_inv L (pre ++ [x]) _ ?_
    obtain ⟨h1, h2⟩ := h
    obtain ⟨s1, s2⟩ := s
    constructor
    · show (if 0 < val f sg x ∧ s1 = none then some x else s1) = _
      rw [List.find?_append, ← h1]
      cases s1 with
      | some z =>
        rw [if_neg (by simp)]
        rfl
      | none =>
        show _ = List.find? (hit f sg 1) [x]
        rw [List.find?_cons, hit_val, List.find?_nil]
        by_cases c : 0 < val f sg x
        · rw [if_pos ⟨c, rfl⟩, decide_eq_true (by omega)]
        · rw [if_neg (fun z => c z.1), decide_eq_false (by omega)]
    · cases s2 with
      | none =>
        have e : pre = [] := h2
        subst e
        show List.find? (hit f sg (val f sg x)) [x] = some x ∧ val f sg x = val f sg x ∧ ∀ y ∈ [x], val f sg y ≤ val f sg x
        refine ⟨?_, rfl, fun y hy => ?_⟩
        · rw [List.find?_cons, hit_val, decide_eq_true (Int.le_refl _)]
        · rw [List.mem_singleton.mp hy]; exact Int.le_refl _
      | some m =>
        obtain ⟨k1, k2, k3⟩ := h2
        by_cases c : m.1 < val f sg x
        · have e : (dueStep f sg (s1, some m) x).2 = some (val f sg x, x) := if_pos c
          rw [e]
          refine ⟨?_, rfl, fun y hy => ?_⟩
          · rw [List.find?_append, List.find?_eq_none.mpr fun y hy => by
              rw [hit_val]
              have := k3 y hy
              simp only [decide_eq_true_eq]
              show ¬ val f sg x ≤ val f sg y
              omega]
            show List.find? (hit f sg (val f sg x)) [x] = some x
            rw [List.find?_cons, hit_val, decide_eq_true (Int.le_refl _)]
          · rcases List.mem_append.mp hy with z | z
            · have := k3 y z
              show val f sg y ≤ val f sg x
              omega
            · rw [List.mem_singleton.mp z]; exact Int.le_refl _
        · have e : (dueStep f sg (s1, some m) x).2 = some m := if_neg c
          rw [e]
          refine ⟨?_, k2, fun y hy => ?_⟩
          · rw [List.find?_append, k1]; rfl
          · rcases List.mem_append.mp hy with z | z
            · exact k3 y z
            · rw [List.mem_singleton.mp z]; omega
theorem due_ok {f : Int → Int} {sg : Int} (L : List (Int × Int)) (hne : L ≠ []) : ∃ M x, L.foldl (dueStep f sg) (none, none) = (L.find? (hit f sg 1), some (M, x)) ∧ L.find? (hit f sg M) = some x ∧ val f sg x = M ∧ ∀ y ∈ L, val f sg y ≤ M := by
  have h := due_inv (f := f) (sg := sg) L [] (none, none) ⟨rfl, rfl⟩
  rw [List.nil_append] at h
  obtain ⟨h1, h2⟩ := h
  cases e : L.foldl (dueStep f sg) (none, none) with
  | mk s1 s2 =>
    rw [e] at h1 h2
    cases s2 with
    | none => exact absurd h2 hne
    | some m => exact ⟨m.1, m.2, by rw [show s1 = _ from h1], h2.1, h2.2.1, h2.2.2⟩
/-- what the law finds is what the module finds -/
theorem due_most {f : Int → Int} {a r sg M Q : Int} {x : Int × Int} (P : Per f a r) (hQ : a + r ≤ Q) (h1 : (LL Q).find? (hit f sg M) = some x) (h2 : val f sg x = M) (h3 : ∀ y ∈ LL Q, val f sg y ≤ M) :
    M = bigM f sg (a + r) ∧ (LP (a + r)).find? (hit f sg M) = some x := by
  have r1 := P.r1
  have a0 := P.a0
  have B := bigM_max (f := f) (sg := sg) (R := a + r) (by omega)
  have hx := mem_pairs.mp (List.mem_of_find?_eq_some h1)
  have e : M = bigM f sg (a + r) := by
    apply Int.le_antisymm
    · rw [← h2]
      exact all_le P B.ub (by omega) (by omega)
    · obtain ⟨u, v, k1, k2, k3, k4⟩ := B.at_
      rw [← k4]
      have := h3 (u + v, u) (mem_pairs.mpr ⟨by show 2 ≤ u + v; omega, by show u + v < 2 * Q + 1; omega, k1, by show u < u + v; omega⟩)
      unfold val at this
      rw [show ((u + v, u) : Int × Int).1 - ((u + v, u) : Int × Int).2 = v by show u + v - u = v; omega] at this
      exact this
  exact ⟨e, by rw [first_eq P hQ]; exact h1⟩
end LW
end
section
set_option maxHeartbeats 400000
namespace LW
theorem find_is {L : List (Int × Int)} {p : Int × Int → Bool} (s : L.Pairwise lexlt) {x : Int × Int} (hx : x ∈ L) (px : p x = true) (h : ∀ y ∈ L, p y = true → y = x ∨ lexlt x y) : L.find? p = some x := by
  cases e : L.find? p with
  | none =>
    rw [List.find?_eq_none] at e
    exact absurd px (e x hx)
  | some z =>
    obtain ⟨h1, h2, h3⟩ := find_first s e
    rcases h z h2 h1 with q | q
    · rw [q]
    · rcases h3 x hx px with k | k
      · rw [k]
      · exact absurd (lex_trans q k) lex_irrefl
theorem IsMax.uniq {f : Int → Int} {sg R M N : Int} (h : IsMax f sg R M) (k : IsMax f sg R N) : M = N := by
  obtain ⟨x, y, a, b, c, d⟩ := h.at_
  obtain ⟨u, v, a', b', c', d'⟩ := k.at_
  have := h.ub u v a' b' c'
  have := k.ub x y a b c
  omega
theorem mem_LP {R T o : Int} : (T, o) ∈ LP R ↔ 2 ≤ T ∧ T < 2 * R + 1 ∧ max 1 (T - R) ≤ o ∧ o < T / 2 + 1 := mem_pairs
theorem LP_sorted {R : Int} : (LP R).Pairwise lexlt := pairs_sorted
/-! a step -/
def stepF (s b : Int) (x : Int) : Int := if s ≤ x then b else 0
theorem pay_step {s b x : Int} (hx : 0 ≤ x) : pay ([⟨0, 0, 0, 1⟩] ++ [⟨s, b, 0, 1⟩]) x = stepF s b x := by
  unfold pay stepF
  simp only [List.cons_append, List.nil_append, List.foldl_cons, List.foldl_nil, stepP]
  rw [if_pos hx]
  split <;> simp
theorem step_gn {s b x y : Int} (hs : 2 ≤ s) (hb : 1 ≤ b) (hx : 1 ≤ x) (hy : 1 ≤ y) : gn (stepF s b) x y = if s ≤ x ∧ s ≤ y then b else if x < s ∧ y < s ∧ s ≤ x + y then -b else 0 := by
  unfold gn stepF
  by_cases h1 : s ≤ x <;> by_cases h2 : s ≤ y <;> by_cases h3 : s ≤ x + y <;> simp [h1, h2, h3] <;> omega
theorem gn_congr {f g : Int → Int} (h : ∀ x, 0 ≤ x → f x = g x) {x y : Int} (hx : 1 ≤ x) (hy : 1 ≤ y) : gn f x y = gn g x y := by
  unfold gn
  rw [h x (by omega), h y (by omega), h (x + y) (by omega)]
theorem step_split {f : Int → Int} {s b : Int} (hs : 2 ≤ s) (hb : 1 ≤ b) (hf : ∀ x, 0 ≤ x → f x = stepF s b x) (t : Int) (t1 : 1 ≤ t) (t2 : t ≤ b) : (LP (s + 1)).find? (hit f 1 t) = some (2 * s, s) := by
  refine find_is LP_sorted (mem_LP.mpr ⟨by omega, by omega, by omega, by omega⟩) ?_ fun y hy hp => ?_
  · unfold hit
    rw [gn_congr hf (by show 1 ≤ s; omega) (by show 1 ≤ 2 * s - s; omega), step_gn hs hb (by show 1 ≤ s; omega) (by show 1 ≤ 2 * s - s; omega), if_pos ⟨Int.le_refl _, by show s ≤ 2 * s - s; omega⟩]
    exact decide_eq_true (by omega)
  · obtain ⟨T, o⟩ := y
    have h := mem_LP.mp hy
    have hp := of_decide_eq_true hp
    have hp : 1 * gn f o (T - o) ≥ t := hp
    rw [gn_congr hf (by omega) (by omega), step_gn hs hb (by omega) (by omega)] at hp
    have : s ≤ o ∧ s ≤ T - o := by
      by_cases c : s ≤ o ∧ s ≤ T - o
      · exact c
      · rw [if_neg c] at hp
        exfalso
        split at hp <;> omega
    by_cases c : T = 2 * s
    · left; rw [c, show o = s by omega]
    · right; left; show 2 * s < T; omega
theorem step_join {f : Int → Int} {s b : Int} (hs : 2 ≤ s) (hb : 1 ≤ b) (hf : ∀ x, 0 ≤ x → f x = stepF s b x) (t : Int) (t1 : 1 ≤ t) (t2 : t ≤ b) : (LP (s + 1)).find? (hit f (-1) t) = some (s, 1) := by
  refine find_is LP_sorted (mem_LP.mpr ⟨by omega, by omega, by omega, by omega⟩) ?_ fun y hy hp => ?_
  · unfold hit
    rw [gn_congr hf (by show (1 : Int) ≤ 1; omega) (by show 1 ≤ s - 1; omega), step_gn hs hb (by show (1 : Int) ≤ 1; omega) (by show 1 ≤ s - 1; omega), if_neg (by show ¬ (s ≤ 1 ∧ s ≤ s - 1); omega), if_pos (by show 1 < s ∧ s - 1 < s ∧ s ≤ 1 + (s - 1); omega)]
    exact decide_eq_true (by omega)
  · obtain ⟨T, o⟩ := y
    have h := mem_LP.mp hy
    have hp := of_decide_eq_true hp
    have hp : -1 * gn f o (T - o) ≥ t := hp
    rw [gn_congr hf (by omega) (by omega), step_gn hs hb (by omega) (by omega)] at hp
    have : s ≤ o + (T - o) := by
      by_cases c : s ≤ o ∧ s ≤ T - o
      · rw [if_pos c] at hp; omega
      · rw [if_neg c] at hp
        by_cases d : o < s ∧ T - o < s ∧ s ≤ o + (T - o)
        · exact d.2.2
        · rw [if_neg d] at hp; omega
    by_cases c : T = s
    · by_cases d : o = 1
      · left; rw [c, d]
      · right; right; exact ⟨c.symm, by show 1 < o; omega⟩
    · right; left; show s < T; omega
theorem step_max {f : Int → Int} {s b : Int} (hs : 2 ≤ s) (hb : 1 ≤ b) (hf : ∀ x, 0 ≤ x → f x = stepF s b x) : bigM f 1 (s + 1) = b ∧ bigM f (-1) (s + 1) = b := by
  constructor
  · refine IsMax.uniq (bigM_max (by omega)) ⟨fun x y h1 h2 h3 => ?_, s, s, by omega, Int.le_refl _, by omega, ?_⟩
    · rw [gn_congr hf h1 (by omega), step_gn hs hb h1 (by omega)]
      split
      · omega
      · split <;> omega
    · rw [gn_congr hf (by omega) (by omega), step_gn hs hb (by omega) (by omega), if_pos ⟨Int.le_refl _, Int.le_refl _⟩]
      omega
  · refine IsMax.uniq (bigM_max (by omega)) ⟨fun x y h1 h2 h3 => ?_, 1, s - 1, by omega, by omega, by omega, ?_⟩
    · rw [gn_congr hf h1 (by omega), step_gn hs hb h1 (by omega)]
      split
      · omega
      · split <;> omega
    · rw [gn_congr hf (by omega) (by omega), step_gn hs hb (by omega) (by omega), if_neg (by omega), if_pos (by omega)]
      omega
/-! one's own part -/
def ownF (s p r : Int) (x : Int) : Int := if s ≤ x then (x - s) * p / r else 0
theorem pay_own {s p r x : Int} (hx : 0 ≤ x) : pay ([⟨0, 0, 0, 1⟩] ++ [⟨s, 0, p, r⟩]) x = ownF s p r x := by
  unfold pay ownF
  simp only [List.cons_append, List.nil_append, List.foldl_cons, List.foldl_nil, stepP]
  rw [if_pos hx]
  split <;> simp
theorem ediv_add_le {a b r : Int} (hr : 1 ≤ r) : a / r + b / r ≤ (a + b) / r := by
  rw [Int.le_ediv_iff_mul_le (by omega), Int.add_mul]
  have h1 := Int.ediv_mul_le a (b := r) (by omega)
  have h2 := Int.ediv_mul_le b (b := r) (by omega)
  omega
section
variable {s p r : Int}
theorem own_nn (hp : 1 ≤ p) (hr : 1 ≤ r) (x : Int) : 0 ≤ ownF s p r x := by
  unfold ownF
  split
  · exact Int.ediv_nonneg (Int.mul_nonneg (by omega) (by omega)) (by omega)
  · exact Int.le_refl _
theorem own_mono (hp : 1 ≤ p) (hr : 1 ≤ r) {x y : Int} (h : x ≤ y) : ownF s p r x ≤ ownF s p r y := by
  by_cases c : s ≤ x
  · unfold ownF
    rw [if_pos c, if_pos (by omega)]
    exact Int.ediv_le_ediv (by omega) (Int.mul_le_mul_of_nonneg_right (by omega) (by omega))
  · have : ownF s p r x = 0 := if_neg c
    rw [this]
    exact own_nn hp hr y
theorem own_gn (hs : 2 ≤ s) (hp : 1 ≤ p) (hr : 1 ≤ r) {x y : Int} (hx : 1 ≤ x) (hy : 1 ≤ y) : gn (ownF s p r) x y ≤ 0 := by
  unfold gn
  by_cases c : s ≤ x
  · by_cases d : s ≤ y
    · have e1 : ownF s p r x = (x - s) * p / r := if_pos c
      have e2 : ownF s p r y = (y - s) * p / r := if_pos d
      have e3 : ownF s p r (x + y) = (x + y - s) * p / r := if_pos (by omega)
      rw [e1, e2, e3]
      have h1 := ediv_add_le (a := (x - s) * p) (b := (y - s) * p) hr
      have h2 : ((x - s) * p + (y - s) * p) / r ≤ (x + y - s) * p / r := by
        refine Int.ediv_le_ediv (by omega) ?_
        rw [← Int.add_mul]
        exact Int.mul_le_mul_of_nonneg_right (by omega) (by omega)
      omega
    · have e2 : ownF s p r y = 0 := if_neg d
      have := own_mono (s := s) hp hr (show x ≤ x + y by omega)
      omega
  · have e1 : ownF s p r x = 0 := if_neg c
    have := own_mono (s := s) hp hr (show y ≤ x + y by omega)
    omega
theorem own_none {f : Int → Int} (hs : 2 ≤ s) (hp : 1 ≤ p) (hr : 1 ≤ r) (hf : ∀ x, 0 ≤ x → f x = ownF s p r x) : (LP (s + r)).find? (hit f 1 1) = none := by
  rw [List.find?_eq_none]
  intro y hy hp'
  obtain ⟨T, o⟩ := y
  have h := mem_LP.mp hy
  have hp' := of_decide_eq_true hp'
  have hp' : 1 * gn f o (T - o) ≥ 1 := hp'
  rw [gn_congr hf (by omega) (by omega)] at hp'
  have := own_gn (p := p) (r := r) hs hp hr (x := o) (y := T - o) (by omega) (by omega)
  omega
theorem own_11 (hs : 2 ≤ s) (hr : 1 ≤ r) : gn (ownF s p r) 1 1 = 0 := by
  unfold gn ownF
  rw [if_neg (by omega)]
  split
  · rw [show (1 : Int) + 1 - s = 0 by omega]; simp
  · rfl
theorem own_max {f : Int → Int} (hs : 2 ≤ s) (hp : 1 ≤ p) (hr : 1 ≤ r) (hf : ∀ x, 0 ≤ x → f x = ownF s p r x) : bigM f 1 (s + r) = 0 ∧ (LP (s + r)).find? (hit f 1 0) = some (2, 1) := by
  refine ⟨IsMax.uniq (bigM_max (by omega)) ⟨fun x y h1 h2 h3 => ?_, 1, 1, Int.le_refl _, Int.le_refl _, by omega, ?_⟩, find_is LP_sorted (mem_LP.mpr ⟨by omega, by omega, by omega, by decide⟩) ?_ fun y hy _ => ?_⟩
  · rw [gn_congr hf h1 (by omega)]
    have := own_gn (p := p) (r := r) hs hp hr (x := x) (y := y) h1 (by omega)
    omega
  · rw [gn_congr hf (Int.le_refl _) (Int.le_refl _), own_11 hs hr]
    rfl
  · unfold hit
    show decide (1 * gn f 1 (2 - 1) ≥ 0) = true
    rw [show (2 : Int) - 1 = 1 from rfl, gn_congr hf (Int.le_refl _) (Int.le_refl _), own_11 hs hr]
    rfl
  · obtain ⟨T, o⟩ := y
    have h := mem_LP.mp hy
    unfold lexlt
    show (T, o) = (2, 1) ∨ (2 < T ∨ (2 = T ∧ 1 < o))
    by_cases c : T = 2
    · by_cases d : o = 1
      · left; rw [c, d]
      · right; right; omega
    · right; left; omega
theorem own_join {f : Int → Int} (hs : 2 ≤ s) (hp : 1 ≤ p) (hr : 1 ≤ r) (hf : ∀ x, 0 ≤ x → f x = ownF s p r x) : (LP (s + r)).find? (hit f (-1) 1) = some (s + (r + p - 1) / p, 1) := by
  have c1 : 1 ≤ (r + p - 1) / p := by rw [Int.le_ediv_iff_mul_le (by omega)]; omega
  have c2 : (r + p - 1) / p ≤ r := by
    have : (r + p - 1) / p < r + 1 := by
      rw [Int.ediv_lt_iff_lt_mul (by omega), Int.add_mul, Int.one_mul]
      have : r * 1 ≤ r * p := Int.mul_le_mul_of_nonneg_left hp (by omega)
      omega
    omega
  have c3 : r ≤ (r + p - 1) / p * p := by
    have h := Int.mul_ediv_add_emod (r + p - 1) p
    have h2 := Int.emod_lt_of_pos (r + p - 1) (b := p) (by omega)
    rw [Int.mul_comm] at h
    omega
  have c4 : ((r + p - 1) / p - 1) * p < r := by
    have h := Int.mul_ediv_add_emod (r + p - 1) p
    have h2 := Int.emod_nonneg (r + p - 1) (b := p) (by omega)
    rw [Int.mul_comm] at h
    rw [Int.sub_mul, Int.one_mul]
    omega
  generalize (r + p - 1) / p = c at *
  refine find_is LP_sorted (mem_LP.mpr ⟨by omega, by omega, by omega, by omega⟩) ?_ fun y hy hq => ?_
  · unfold hit
    show decide (-1 * gn f 1 (s + c - 1) ≥ 1) = true
    rw [gn_congr hf (Int.le_refl _) (by omega)]
    have e1 : ownF s p r 1 = 0 := if_neg (by omega)
    have e2 : ownF s p r (s + c - 1) = 0 := by
      unfold ownF
      rw [if_pos (by omega), show s + c - 1 - s = c - 1 by omega]
      exact Int.ediv_eq_zero_of_lt (Int.mul_nonneg (by omega) (by omega)) c4
    have e3 : 1 ≤ ownF s p r (1 + (s + c - 1)) := by
      unfold ownF
      rw [if_pos (by omega), show 1 + (s + c - 1) - s = c by omega, Int.le_ediv_iff_mul_le (by omega)]
      omega
    unfold gn
    rw [e1, e2]
    exact decide_eq_true (by omega)
  · obtain ⟨T, o⟩ := y
    have h := mem_LP.mp hy
    have hq := of_decide_eq_true hq
    have hq : -1 * gn f o (T - o) ≥ 1 := hq
    rw [gn_congr hf (by omega) (by omega)] at hq
    unfold gn at hq
    rw [show o + (T - o) = T by omega] at hq
    have n1 := own_nn (s := s) hp hr o
    have n2 := own_nn (s := s) hp hr (T - o)
    have hT : 1 ≤ ownF s p r T := by omega
    have hTs : s + c ≤ T := by
      unfold ownF at hT
      by_cases d : s ≤ T
      · rw [if_pos d, Int.le_ediv_iff_mul_le (by omega)] at hT
        by_cases e : T - s ≤ c - 1
        · have := Int.mul_le_mul_of_nonneg_right e (show 0 ≤ p by omega)
          omega
        · omega
      · rw [if_neg d] at hT; omega
    unfold lexlt
    show (T, o) = (s + c, 1) ∨ (s + c < T ∨ (s + c = T ∧ 1 < o))
    by_cases c' : T = s + c
    · by_cases d : o = 1
      · left; rw [c', d]
      · right; right; omega
    · right; left; omega
end
end LW
end
section
set_option maxHeartbeats 1000000
namespace LW
open PySem PV
def brD (k : Br) : D := .tup [.int k.s, .int k.b, .int k.p, .int k.r]
def scD (l : List Br) : D := .tup (l.map brD)
theorem pw18 : binT .pow (.int 10) (.int 18) = .ret (.int 1000000000000000000) := by
  show (if (0:Int) ≤ 18 ∧ (18:Int) ≤ 1000 ∧ (10 : Int).natAbs < 2 ^ 64 then T.ret (D.int ((10:Int) ^ (18:Int).toNat)) else T.bad) = _
  rw [if_pos (by decide)]
  rfl
theorem whole_int (n : Nat) (i : Int) (h1 : -1000000000000000000 < i) (h2 : i < 1000000000000000000) : callF tab WH (n + 1) 1 [.int i] = .ret (.bl true) := by
  show runD (callF tab WH n) WH d1 [.int i] = _
  rw [run_eq rfl]
  have k : bltT .isint [.int i] = .ret (.bl true) := rfl
  have k2 : bltT .isbool [.int i] = .ret (.bl false) := rfl
  simp only [d1, startE]
  simp only [e_non, e_bl, e_int, e_str, e_var, e_con, e_bin, e_neg, e_cmp, e_chain, e_and, e_or, e_not, e_ite, e_tup, e_lst, e_idx, e_slc, e_call, e_callK, e_blt, e_isk, b_var, b_cmp, b_chain, b_and, b_or, b_not, b_yes, b_call, b_callK, b_blt, b_isk, a_nil, a_cons, r_nil, r_cons, o_nopart, o_part, i_rng1, i_rng2, i_zip, i_enum, i_cap, i_var, i_blt, i_call, i_tup, i_lst, i_idx, i_slc, q_add, q_sub, q_neg, q_lt, q_le, q_gt, q_ge, q_eqI, q_neI, q_isNN, q_isNT, q_isNI, q_isNL, q_isnNN, q_isnNT, q_isnNI, q_isnNL, q_andT, q_andF, q_orT, q_orF, q_not, q_toB, q_part, q_fzI, q_fzB, q_fzS, q_fzN, q_fzT, q_fzL, q_fzW, q_fzSt, q_fzSc, s_nil, s_cons, k_nx, k_rt, k_bk, k_ct, s_asg, s_asgF, s_asgT, k_asg, s_par, s_expr, s_iff, s_retN, s_raise, s_brk, s_cont, s_pass, s_frz, k_frzO, k_frzV, s_retV, k_retO, k_retV, s_ret_non, s_ret_bl, s_ret_int, s_ret_str, s_ret_con, s_ret_bin, s_ret_neg, s_ret_cmp, s_ret_chain, s_ret_and, s_ret_or, s_ret_not, s_ret_ite, s_ret_tup, s_ret_lst, s_ret_idx, s_ret_slc, s_ret_call, s_ret_callK, s_ret_blt, s_ret_isk, s_ret_comp, s_app, k_runR, k_runN, for_nil, k_forN, k_forC, k_forB, k_forR, g_nm, g_tp, o_some, noErr_ret, retK, ret_bind, err_bind, bad_bind, getV, slOf, slO, setAll, parT, List.length_cons, List.length_nil, List.map_cons, List.map_nil, List.getElem?_cons_zero, List.getElem?_cons_succ, List.set_cons_zero, List.set_cons_succ, List.cons_append, List.nil_append, List.replicate_succ, List.replicate_zero, k, k2, pw18, h1, h2, decide_true, if_true, Bool.not_false]
/-! _law_sc_paid -/
structure VR (k : Br) : Prop where
  r0 : 1 ≤ k.r
  r1 : k.r < 2 ^ 64
  p0 : 0 ≤ k.p
  p1 : k.p < 2 ^ 64
theorem VB.vr {k : Br} (v : VB k) : VR k := by
  obtain ⟨_, _, _, _, h5, h6, h7, h8⟩ := v
  exact ⟨h5, by omega, h7, by omega⟩
def b16 : S := (.cons (.iff (.cmp .le (.var 3) (.var 1)) (.cons (.asgF 2 (.bin .add (.var 4) (.bin .fdiv (.bin .mul (.bin .sub (.var 1) (.var 3)) (.var 5)) (.var 6)))) .nil) .nil) .nil)
theorem loop16 {call : Nat → List D → T D} {a : Int} {d : D} : ∀ (l : List Br) (f : Int) (x3 x4 x5 x6 : Sl), (∀ k ∈ l, VR k) → ∃ y3 y4 y5 y6, forL (bindTg (.tp [3, 4, 5, 6])) (ex call WH b16) (l.map brD) [.val d, .val (.int a), .val (.int f), x3, x4, x5, x6] = .ret (.nx [.val d, .val (.int a), .val (.int (l.foldl (stepP a) f)), y3, y4, y5, y6])
  | [], f, x3, x4, x5, x6, _ => ⟨x3, x4, x5, x6, rfl⟩
  | k :: l, f, x3, x4, x5, x6, h => by
    have v := h k List.mem_cons_self
    obtain ⟨y3, y4, y5, y6, e⟩   := loop16 (call := call) (d := d) l (stepP a f k) (.val (.int k.s)) (.val (.int k.b)) (.val (.int k.p)) (.val (.int k.r)) fun x hx => h x (List.mem_cons_of_mem _ hx)
    refine ⟨y3, y4, y5, y6, ?_⟩
    rw [List.map_cons, for_cons, List.foldl_cons, ← e]
    have q1 := q_mulR (i := a - k.s) (j := k.p) (by have := v.p0; omega) v.p1
    have q2 := q_fdiv (i := (a - k.s) * k.p) (j := k.r) (by have := v.r0; omega) v.r1
    unfold b16 stepP
    simp only [brD, e_non, e_bl, e_int, e_str, e_var, e_con, e_bin, e_neg, e_cmp, e_chain, e_and, e_or, e_not, e_ite, e_tup, e_lst, e_idx, e_slc, e_call, e_callK, e_blt, e_isk, b_var, b_cmp, b_chain, b_and, b_or, b_not, b_yes, b_call, b_callK, b_blt, b_isk, a_nil, a_cons, r_nil, r_cons, o_nopart, o_part, i_rng1, i_rng2, i_zip, i_enum, i_cap, i_var, i_blt, i_call, i_tup, i_lst, i_idx, i_slc, q_add, q_sub, q_neg, q_lt, q_le, q_gt, q_ge, q_eqI, q_neI, q_isNN, q_isNT, q_isNI, q_isNL, q_isnNN, q_isnNT, q_isnNI, q_isnNL, q_andT, q_andF, q_orT, q_orF, q_not, q_toB, q_part, q_fzI, q_fzB, q_fzS, q_fzN, q_fzT, q_fzL, q_fzW, q_fzSt, q_fzSc, s_nil, s_cons, k_nx, k_rt, k_bk, k_ct, s_asg, s_asgF, s_asgT, k_asg, s_par, s_expr, s_iff, s_retN, s_raise, s_brk, s_cont, s_pass, s_frz, k_frzO, k_frzV, s_retV, k_retO, k_retV, s_ret_non, s_ret_bl, s_ret_int, s_ret_str, s_ret_con, s_ret_bin, s_ret_neg, s_ret_cmp, s_ret_chain, s_ret_and, s_ret_or, s_ret_not, s_ret_ite, s_ret_tup, s_ret_lst, s_ret_idx, s_ret_slc, s_ret_call, s_ret_callK, s_ret_blt, s_ret_isk, s_ret_comp, s_app, k_runR, k_runN, for_nil, k_forN, k_forC, k_forB, k_forR, g_nm, g_tp, o_some, noErr_ret, retK, ret_bind, err_bind, bad_bind, getV, slOf, slO, setAll, parT, List.length_cons, List.length_nil, List.map_cons, List.map_nil, List.getElem?_cons_zero, List.getElem?_cons_succ, List.set_cons_zero, List.set_cons_succ, List.cons_append, List.nil_append, List.replicate_succ, List.replicate_zero, q1, q2, ite_bind]
    by_cases c : k.s ≤ a
    · simp only [c, decide_true, if_true, e_non, e_bl, e_int, e_str, e_var, e_con, e_bin, e_neg, e_cmp, e_chain, e_and, e_or, e_not, e_ite, e_tup, e_lst, e_idx, e_slc, e_call, e_callK, e_blt, e_isk, b_var, b_cmp, b_chain, b_and, b_or, b_not, b_yes, b_call, b_callK, b_blt, b_isk, a_nil, a_cons, r_nil, r_cons, o_nopart, o_part, i_rng1, i_rng2, i_zip, i_enum, i_cap, i_var, i_blt, i_call, i_tup, i_lst, i_idx, i_slc, q_add, q_sub, q_neg, q_lt, q_le, q_gt, q_ge, q_eqI, q_neI, q_isNN, q_isNT, q_isNI, q_isNL, q_isnNN, q_isnNT, q_isnNI, q_isnNL, q_andT, q_andF, q_orT, q_orF, q_not, q_toB, q_part, q_fzI, q_fzB, q_fzS, q_fzN, q_fzT, q_fzL, q_fzW, q_fzSt, q_fzSc, s_nil, s_cons, k_nx, k_rt, k_bk, k_ct, s_asg, s_asgF, s_asgT, k_asg, s_par, s_expr, s_iff, s_retN, s_raise, s_brk, s_cont, s_pass, s_frz, k_frzO, k_frzV, s_retV, k_retO, k_retV, s_ret_non, s_ret_bl, s_ret_int, s_ret_str, s_ret_con, s_ret_bin, s_ret_neg, s_ret_cmp, s_ret_chain, s_ret_and, s_ret_or, s_ret_not, s_ret_ite, s_ret_tup, s_ret_lst, s_ret_idx, s_ret_slc, s_ret_call, s_ret_callK, s_ret_blt, s_ret_isk, s_ret_comp, s_app, k_runR, k_runN, for_nil, k_forN, k_forC, k_forB, k_forR, g_nm, g_tp, o_some, noErr_ret, retK, ret_bind, err_bind, bad_bind, getV, slOf, slO, setAll, parT, List.length_cons, List.length_nil, List.map_cons, List.map_nil, List.getElem?_cons_zero, List.getElem?_cons_succ, List.set_cons_zero, List.set_cons_succ, List.cons_append, List.nil_append, List.replicate_succ, List.replicate_zero]
    · simp only [c, decide_false, Bool.false_eq_true, if_false, e_non, e_bl, e_int, e_str, e_var, e_con, e_bin, e_neg, e_cmp, e_chain, e_and, e_or, e_not, e_ite, e_tup, e_lst, e_idx, e_slc, e_call, e_callK, e_blt, e_isk, b_var, b_cmp, b_chain, b_and, b_or, b_not, b_yes, b_call, b_callK, b_blt, b_isk, a_nil, a_cons, r_nil, r_cons, o_nopart, o_part, i_rng1, i_rng2, i_zip, i_enum, i_cap, i_var, i_blt, i_call, i_tup, i_lst, i_idx, i_slc, q_add, q_sub, q_neg, q_lt, q_le, q_gt, q_ge, q_eqI, q_neI, q_isNN, q_isNT, q_isNI, q_isNL, q_isnNN, q_isnNT, q_isnNI, q_isnNL, q_andT, q_andF, q_orT, q_orF, q_not, q_toB, q_part, q_fzI, q_fzB, q_fzS, q_fzN, q_fzT, q_fzL, q_fzW, q_fzSt, q_fzSc, s_nil, s_cons, k_nx, k_rt, k_bk, k_ct, s_asg, s_asgF, s_asgT, k_asg, s_par, s_expr, s_iff, s_retN, s_raise, s_brk, s_cont, s_pass, s_frz, k_frzO, k_frzV, s_retV, k_retO, k_retV, s_ret_non, s_ret_bl, s_ret_int, s_ret_str, s_ret_con, s_ret_bin, s_ret_neg, s_ret_cmp, s_ret_chain, s_ret_and, s_ret_or, s_ret_not, s_ret_ite, s_ret_tup, s_ret_lst, s_ret_idx, s_ret_slc, s_ret_call, s_ret_callK, s_ret_blt, s_ret_isk, s_ret_comp, s_app, k_runR, k_runN, for_nil, k_forN, k_forC, k_forB, k_forR, g_nm, g_tp, o_some, noErr_ret, retK, ret_bind, err_bind, bad_bind, getV, slOf, slO, setAll, parT, List.length_cons, List.length_nil, List.map_cons, List.map_nil, List.getElem?_cons_zero, List.getElem?_cons_succ, List.set_cons_zero, List.set_cons_succ, List.cons_append, List.nil_append, List.replicate_succ, List.replicate_zero]
theorem f16 {n : Nat} {l : List Br} {a : Int} (h : ∀ k ∈ l, VR k) : callF tab WH (n + 1) 16 [scD l, .int a] = .ret (.int (pay l a)) := by
  show runD (callF tab WH n) WH d16 _ = _
  rw [run_eq rfl]
  obtain ⟨y3, y4, y5, y6, e⟩ := loop16 (call := callF tab WH n) (a := a) (d := scD l) l 0 .un .un .un .un h
  unfold b16 at e
  have hf : frozen (scD l) = some (l.map brD) := rfl
  simp only [d16, startE]
  simp only [e_non, e_bl, e_int, e_str, e_var, e_con, e_bin, e_neg, e_cmp, e_chain, e_and, e_or, e_not, e_ite, e_tup, e_lst, e_idx, e_slc, e_call, e_callK, e_blt, e_isk, b_var, b_cmp, b_chain, b_and, b_or, b_not, b_yes, b_call, b_callK, b_blt, b_isk, a_nil, a_cons, r_nil, r_cons, o_nopart, o_part, i_rng1, i_rng2, i_zip, i_enum, i_cap, i_var, i_blt, i_call, i_tup, i_lst, i_idx, i_slc, q_add, q_sub, q_neg, q_lt, q_le, q_gt, q_ge, q_eqI, q_neI, q_isNN, q_isNT, q_isNI, q_isNL, q_isnNN, q_isnNT, q_isnNI, q_isnNL, q_andT, q_andF, q_orT, q_orF, q_not, q_toB, q_part, q_fzI, q_fzB, q_fzS, q_fzN, q_fzT, q_fzL, q_fzW, q_fzSt, q_fzSc, s_nil, s_cons, k_nx, k_rt, k_bk, k_ct, s_asg, s_asgF, s_asgT, k_asg, s_par, s_expr, s_iff, s_retN, s_raise, s_brk, s_cont, s_pass, s_frz, k_frzO, k_frzV, s_retV, k_retO, k_retV, s_ret_non, s_ret_bl, s_ret_int, s_ret_str, s_ret_con, s_ret_bin, s_ret_neg, s_ret_cmp, s_ret_chain, s_ret_and, s_ret_or, s_ret_not, s_ret_ite, s_ret_tup, s_ret_lst, s_ret_idx, s_ret_slc, s_ret_call, s_ret_callK, s_ret_blt, s_ret_isk, s_ret_comp, s_app, k_runR, k_runN, for_nil, k_forN, k_forC, k_forB, k_forR, g_nm, g_tp, o_some, noErr_ret, retK, ret_bind, err_bind, bad_bind, getV, slOf, slO, setAll, parT, List.length_cons, List.length_nil, List.map_cons, List.map_nil, List.getElem?_cons_zero, List.getElem?_cons_succ, List.set_cons_zero, List.set_cons_succ, List.cons_append, List.nil_append, List.replicate_succ, List.replicate_zero, s_for, hf, e]
  rfl

theorem ix4 {a b c d : D} : idxT (.tup [a, b, c, d]) (.int 0) = .ret a ∧ idxT (.tup [a, b, c, d]) (.int 1) = .ret b ∧ idxT (.tup [a, b, c, d]) (.int 2) = .ret c ∧ idxT (.tup [a, b, c, d]) (.int 3) = .ret d := ⟨rfl, rfl, rfl, rfl⟩
theorem ixNew {xs : List D} {i : Int} : idxT (.new xs) (.int i) = ofO (L2.atI xs i) := rfl
theorem ixTup {xs : List D} {i : Int} : idxT (.tup xs) (.int i) = ofO (L2.atI xs i) := rfl
theorem ixLst {xs : List D} {i : Int} : idxT (.lst xs) (.int i) = ofO (L2.atI xs i) := rfl
theorem f6 {n : Nat} {l : List Br} {a : Int} (hv : ∀ k ∈ l, VR k) (hne : ∃ k ∈ l, k.s ≤ a) : callF tab WH (n + 1) 6 [scD l, .int a] = .ret (.int (pay l a)) := by
  show runD (callF tab WH n) WH d6 _ = _
  rw [run_eq rfl]
  have hf : frozen (scD l) = some (l.map brD) := rfl
  obtain ⟨k, hk⟩ : ∃ k, (l.filter fun k => decide (k.s ≤ a)).getLast? = some k := by
    cases e : (l.filter fun k => decide (k.s ≤ a)).getLast? with
    | none =>
      rw [List.getLast?_eq_none_iff, List.filter_eq_nil_iff] at e
      obtain ⟨k, h1, h2⟩ := hne
      exact absurd (decide_eq_true h2) (e k h1)
    | some k => exact ⟨k, rfl⟩
  have hm : k ∈ l := (List.mem_filter.mp (List.mem_of_getLast? hk)).1
  have v := hv k hm
  have hp : pay l a = k.b + (a - k.s) * k.p / k.r := by rw [pay_filter, hk]; rfl
  have q1 := q_mulR (i := a - k.s) (j := k.p) (by have := v.p0; omega) v.p1
  have q2 := q_fdiv (i := (a - k.s) * k.p) (j := k.r) (by have := v.r0; omega) v.r1
  have hc : ∀ call : Nat → List D → T D, compL (compF (.nm 6) [6] (evs call (.cmp .le (.idx (.var 6) (.int 0)) (.var 1))).B (evs call (.var 6)).E [.val (scD l), .val (.int a), .un, .un, .un, .un, .un]) (l.map brD) = .ret ((l.filter fun k => decide (k.s ≤ a)).map brD) := fun call => by
    rw [comp_fmapM (f := fun k => if k.s ≤ a then some (brD k) else none) fun k _ => ?_, filterMap_ite]
    simp only [compF_eq, wipeE, e_non, e_bl, e_int, e_str, e_var, e_con, e_bin, e_neg, e_cmp, e_chain, e_and, e_or, e_not, e_ite, e_tup, e_lst, e_idx, e_slc, e_call, e_callK, e_blt, e_isk, b_var, b_cmp, b_chain, b_and, b_or, b_not, b_yes, b_call, b_callK, b_blt, b_isk, a_nil, a_cons, r_nil, r_cons, o_nopart, o_part, i_rng1, i_rng2, i_zip, i_enum, i_cap, i_var, i_blt, i_call, i_tup, i_lst, i_idx, i_slc, q_add, q_sub, q_neg, q_lt, q_le, q_gt, q_ge, q_eqI, q_neI, q_isNN, q_isNT, q_isNI, q_isNL, q_isnNN, q_isnNT, q_isnNI, q_isnNL, q_andT, q_andF, q_orT, q_orF, q_not, q_toB, q_part, q_fzI, q_fzB, q_fzS, q_fzN, q_fzT, q_fzL, q_fzW, q_fzSt, q_fzSc, s_nil, s_cons, k_nx, k_rt, k_bk, k_ct, s_asg, s_asgF, s_asgT, k_asg, s_par, s_expr, s_iff, s_retN, s_raise, s_brk, s_cont, s_pass, s_frz, k_frzO, k_frzV, s_retV, k_retO, k_retV, s_ret_non, s_ret_bl, s_ret_int, s_ret_str, s_ret_con, s_ret_bin, s_ret_neg, s_ret_cmp, s_ret_chain, s_ret_and, s_ret_or, s_ret_not, s_ret_ite, s_ret_tup, s_ret_lst, s_ret_idx, s_ret_slc, s_ret_call, s_ret_callK, s_ret_blt, s_ret_isk, s_ret_comp, s_app, k_runR, k_runN, for_nil, k_forN, k_forC, k_forB, k_forR, g_nm, g_tp, o_some, noErr_ret, retK, ret_bind, err_bind, bad_bind, getV, slOf, slO, setAll, parT, List.length_cons, List.length_nil, List.map_cons, List.map_nil, List.getElem?_cons_zero, List.getElem?_cons_succ, List.set_cons_zero, List.set_cons_succ, List.cons_append, List.nil_append, List.replicate_succ, List.replicate_zero, brD, ix4]
    by_cases c : k.s ≤ a
    · simp only [c, decide_true, if_true, e_non, e_bl, e_int, e_str, e_var, e_con, e_bin, e_neg, e_cmp, e_chain, e_and, e_or, e_not, e_ite, e_tup, e_lst, e_idx, e_slc, e_call, e_callK, e_blt, e_isk, b_var, b_cmp, b_chain, b_and, b_or, b_not, b_yes, b_call, b_callK, b_blt, b_isk, a_nil, a_cons, r_nil, r_cons, o_nopart, o_part, i_rng1, i_rng2, i_zip, i_enum, i_cap, i_var, i_blt, i_call, i_tup, i_lst, i_idx, i_slc, q_add, q_sub, q_neg, q_lt, q_le, q_gt, q_ge, q_eqI, q_neI, q_isNN, q_isNT, q_isNI, q_isNL, q_isnNN, q_isnNT, q_isnNI, q_isnNL, q_andT, q_andF, q_orT, q_orF, q_not, q_toB, q_part, q_fzI, q_fzB, q_fzS, q_fzN, q_fzT, q_fzL, q_fzW, q_fzSt, q_fzSc, s_nil, s_cons, k_nx, k_rt, k_bk, k_ct, s_asg, s_asgF, s_asgT, k_asg, s_par, s_expr, s_iff, s_retN, s_raise, s_brk, s_cont, s_pass, s_frz, k_frzO, k_frzV, s_retV, k_retO, k_retV, s_ret_non, s_ret_bl, s_ret_int, s_ret_str, s_ret_con, s_ret_bin, s_ret_neg, s_ret_cmp, s_ret_chain, s_ret_and, s_ret_or, s_ret_not, s_ret_ite, s_ret_tup, s_ret_lst, s_ret_idx, s_ret_slc, s_ret_call, s_ret_callK, s_ret_blt, s_ret_isk, s_ret_comp, s_app, k_runR, k_runN, for_nil, k_forN, k_forC, k_forB, k_forR, g_nm, g_tp, o_some, noErr_ret, retK, ret_bind, err_bind, bad_bind, getV, slOf, slO, setAll, parT, List.length_cons, List.length_nil, List.map_cons, List.map_nil, List.getElem?_cons_zero, List.getElem?_cons_succ, List.set_cons_zero, List.set_cons_succ, List.cons_append, List.nil_append, List.replicate_succ, List.replicate_zero]
    · simp only [c, decide_false, Bool.false_eq_true, if_false]
  simp only [d6, startE]
  simp only [e_non, e_bl, e_int, e_str, e_var, e_con, e_bin, e_neg, e_cmp, e_chain, e_and, e_or, e_not, e_ite, e_tup, e_lst, e_idx, e_slc, e_call, e_callK, e_blt, e_isk, b_var, b_cmp, b_chain, b_and, b_or, b_not, b_yes, b_call, b_callK, b_blt, b_isk, a_nil, a_cons, r_nil, r_cons, o_nopart, o_part, i_rng1, i_rng2, i_zip, i_enum, i_cap, i_var, i_blt, i_call, i_tup, i_lst, i_idx, i_slc, q_add, q_sub, q_neg, q_lt, q_le, q_gt, q_ge, q_eqI, q_neI, q_isNN, q_isNT, q_isNI, q_isNL, q_isnNN, q_isnNT, q_isnNI, q_isnNL, q_andT, q_andF, q_orT, q_orF, q_not, q_toB, q_part, q_fzI, q_fzB, q_fzS, q_fzN, q_fzT, q_fzL, q_fzW, q_fzSt, q_fzSc, s_nil, s_cons, k_nx, k_rt, k_bk, k_ct, s_asg, s_asgF, s_asgT, k_asg, s_par, s_expr, s_iff, s_retN, s_raise, s_brk, s_cont, s_pass, s_frz, k_frzO, k_frzV, s_retV, k_retO, k_retV, s_ret_non, s_ret_bl, s_ret_int, s_ret_str, s_ret_con, s_ret_bin, s_ret_neg, s_ret_cmp, s_ret_chain, s_ret_and, s_ret_or, s_ret_not, s_ret_ite, s_ret_tup, s_ret_lst, s_ret_idx, s_ret_slc, s_ret_call, s_ret_callK, s_ret_blt, s_ret_isk, s_ret_comp, s_app, k_runR, k_runN, for_nil, k_forN, k_forC, k_forB, k_forR, g_nm, g_tp, o_some, noErr_ret, retK, ret_bind, err_bind, bad_bind, getV, slOf, slO, setAll, parT, List.length_cons, List.length_nil, List.map_cons, List.map_nil, List.getElem?_cons_zero, List.getElem?_cons_succ, List.set_cons_zero, List.set_cons_succ, List.cons_append, List.nil_append, List.replicate_succ, List.replicate_zero, e_comp, hf, hc, noErr_ret, ixNew, idx_last, List.getLast?_map, hk, Option.map_some, brD, q1, q2, hp]
theorem f7 {n : Nat} {l : List Br} {m : Int} (hv : ∀ k ∈ l, VR k) (hne : ∃ k ∈ l, k.s = 0) (h0 : 0 ≤ m) (hm : m < 16777216 - 1) : callF tab WH (n + 2) 7 [scD l, .int m] = .ret (.new ((rng 0 (m + 1)).map fun x => .int (pay l x))) := by
  show runD (callF tab WH (n + 1)) WH d7 _ = _
  rw [run_eq rfl]
  have hr : rngI 0 (m + 1) = .ret ((rng 0 (m + 1)).map D.int) := by
    rw [rng_ok ⟨by decide, by decide, by omega, by omega, by show _ ≤ 16777216; omega⟩]
    unfold rng
    rw [List.map_map]
    rfl
  have hc : compL (compF (.nm 2) [2] (evs (callF tab WH (n + 1)) .yes).B (evs (callF tab WH (n + 1)) (.call 6 (.cons (.var 0) (.cons (.var 2) .nil)))).E [.val (scD l), .val (.int m), .un]) ((rng 0 (m + 1)).map D.int) = .ret ((rng 0 (m + 1)).map fun x => .int (pay l x)) := by
    refine comp_mapM fun x hx => ?_
    have hx := mem_rng.mp hx
    have fz1 : fz (scD l) = .ret (scD l) := rfl
    have e6 := f6 (n := n) (l := l) (a := x) hv (let ⟨k, h1, h2⟩ := hne; ⟨k, h1, by omega⟩)
    simp only [compF_eq, wipeE, e_non, e_bl, e_int, e_str, e_var, e_con, e_bin, e_neg, e_cmp, e_chain, e_and, e_or, e_not, e_ite, e_tup, e_lst, e_idx, e_slc, e_call, e_callK, e_blt, e_isk, b_var, b_cmp, b_chain, b_and, b_or, b_not, b_yes, b_call, b_callK, b_blt, b_isk, a_nil, a_cons, r_nil, r_cons, o_nopart, o_part, i_rng1, i_rng2, i_zip, i_enum, i_cap, i_var, i_blt, i_call, i_tup, i_lst, i_idx, i_slc, q_add, q_sub, q_neg, q_lt, q_le, q_gt, q_ge, q_eqI, q_neI, q_isNN, q_isNT, q_isNI, q_isNL, q_isnNN, q_isnNT, q_isnNI, q_isnNL, q_andT, q_andF, q_orT, q_orF, q_not, q_toB, q_part, q_fzI, q_fzB, q_fzS, q_fzN, q_fzT, q_fzL, q_fzW, q_fzSt, q_fzSc, s_nil, s_cons, k_nx, k_rt, k_bk, k_ct, s_asg, s_asgF, s_asgT, k_asg, s_par, s_expr, s_iff, s_retN, s_raise, s_brk, s_cont, s_pass, s_frz, k_frzO, k_frzV, s_retV, k_retO, k_retV, s_ret_non, s_ret_bl, s_ret_int, s_ret_str, s_ret_con, s_ret_bin, s_ret_neg, s_ret_cmp, s_ret_chain, s_ret_and, s_ret_or, s_ret_not, s_ret_ite, s_ret_tup, s_ret_lst, s_ret_idx, s_ret_slc, s_ret_call, s_ret_callK, s_ret_blt, s_ret_isk, s_ret_comp, s_app, k_runR, k_runN, for_nil, k_forN, k_forC, k_forB, k_forR, g_nm, g_tp, o_some, noErr_ret, retK, ret_bind, err_bind, bad_bind, getV, slOf, slO, setAll, parT, List.length_cons, List.length_nil, List.map_cons, List.map_nil, List.getElem?_cons_zero, List.getElem?_cons_succ, List.set_cons_zero, List.set_cons_succ, List.cons_append, List.nil_append, List.replicate_succ, List.replicate_zero, fz1, e6, if_true]
  simp only [d7, startE]
  simp only [e_non, e_bl, e_int, e_str, e_var, e_con, e_bin, e_neg, e_cmp, e_chain, e_and, e_or, e_not, e_ite, e_tup, e_lst, e_idx, e_slc, e_call, e_callK, e_blt, e_isk, b_var, b_cmp, b_chain, b_and, b_or, b_not, b_yes, b_call, b_callK, b_blt, b_isk, a_nil, a_cons, r_nil, r_cons, o_nopart, o_part, i_rng1, i_rng2, i_zip, i_enum, i_cap, i_var, i_blt, i_call, i_tup, i_lst, i_idx, i_slc, q_add, q_sub, q_neg, q_lt, q_le, q_gt, q_ge, q_eqI, q_neI, q_isNN, q_isNT, q_isNI, q_isNL, q_isnNN, q_isnNT, q_isnNI, q_isnNL, q_andT, q_andF, q_orT, q_orF, q_not, q_toB, q_part, q_fzI, q_fzB, q_fzS, q_fzN, q_fzT, q_fzL, q_fzW, q_fzSt, q_fzSc, s_nil, s_cons, k_nx, k_rt, k_bk, k_ct, s_asg, s_asgF, s_asgT, k_asg, s_par, s_expr, s_iff, s_retN, s_raise, s_brk, s_cont, s_pass, s_frz, k_frzO, k_frzV, s_retV, k_retO, k_retV, s_ret_non, s_ret_bl, s_ret_int, s_ret_str, s_ret_con, s_ret_bin, s_ret_neg, s_ret_cmp, s_ret_chain, s_ret_and, s_ret_or, s_ret_not, s_ret_ite, s_ret_tup, s_ret_lst, s_ret_idx, s_ret_slc, s_ret_call, s_ret_callK, s_ret_blt, s_ret_isk, s_ret_comp, s_app, k_runR, k_runN, for_nil, k_forN, k_forC, k_forB, k_forR, g_nm, g_tp, o_some, noErr_ret, retK, ret_bind, err_bind, bad_bind, getV, slOf, slO, setAll, parT, List.length_cons, List.length_nil, List.map_cons, List.map_nil, List.getElem?_cons_zero, List.getElem?_cons_succ, List.set_cons_zero, List.set_cons_succ, List.cons_append, List.nil_append, List.replicate_succ, List.replicate_zero, e_comp, rng1T, hr, hc, noErr_ret]
theorem f8 {n : Nat} {l : List Br} {k : Br} : callF tab WH (n + 1) 8 [scD (l ++ [k])] = .ret (.int (k.s + k.r)) := by
  show runD (callF tab WH n) WH d8 _ = _
  rw [run_eq rfl]
  have hl : idxT (scD (l ++ [k])) (.int (-1)) = .ret (brD k) := by
    show ofO (L2.atI ((l ++ [k]).map brD) (-1)) = _
    rw [idx_last, List.map_append, List.map_cons, List.map_nil, List.getLast?_append]
    rfl
  simp only [d8, startE]
  simp only [e_non, e_bl, e_int, e_str, e_var, e_con, e_bin, e_neg, e_cmp, e_chain, e_and, e_or, e_not, e_ite, e_tup, e_lst, e_idx, e_slc, e_call, e_callK, e_blt, e_isk, b_var, b_cmp, b_chain, b_and, b_or, b_not, b_yes, b_call, b_callK, b_blt, b_isk, a_nil, a_cons, r_nil, r_cons, o_nopart, o_part, i_rng1, i_rng2, i_zip, i_enum, i_cap, i_var, i_blt, i_call, i_tup, i_lst, i_idx, i_slc, q_add, q_sub, q_neg, q_lt, q_le, q_gt, q_ge, q_eqI, q_neI, q_isNN, q_isNT, q_isNI, q_isNL, q_isnNN, q_isnNT, q_isnNI, q_isnNL, q_andT, q_andF, q_orT, q_orF, q_not, q_toB, q_part, q_fzI, q_fzB, q_fzS, q_fzN, q_fzT, q_fzL, q_fzW, q_fzSt, q_fzSc, s_nil, s_cons, k_nx, k_rt, k_bk, k_ct, s_asg, s_asgF, s_asgT, k_asg, s_par, s_expr, s_iff, s_retN, s_raise, s_brk, s_cont, s_pass, s_frz, k_frzO, k_frzV, s_retV, k_retO, k_retV, s_ret_non, s_ret_bl, s_ret_int, s_ret_str, s_ret_con, s_ret_bin, s_ret_neg, s_ret_cmp, s_ret_chain, s_ret_and, s_ret_or, s_ret_not, s_ret_ite, s_ret_tup, s_ret_lst, s_ret_idx, s_ret_slc, s_ret_call, s_ret_callK, s_ret_blt, s_ret_isk, s_ret_comp, s_app, k_runR, k_runN, for_nil, k_forN, k_forC, k_forB, k_forR, g_nm, g_tp, o_some, noErr_ret, retK, ret_bind, err_bind, bad_bind, getV, slOf, slO, setAll, parT, List.length_cons, List.length_nil, List.map_cons, List.map_nil, List.getElem?_cons_zero, List.getElem?_cons_succ, List.set_cons_zero, List.set_cons_succ, List.cons_append, List.nil_append, List.replicate_succ, List.replicate_zero, hl, brD, ix4]
end LW
end
section
set_option maxHeartbeats 1000000
namespace LW
open PySem PV
theorem idx_rng {f : Int → D} {m o : Int} (h0 : 0 ≤ o) (h1 : o < m) : L2.atI ((rng 0 m).map f) o = some (f o) := by
  obtain ⟨i, rfl⟩ := Int.eq_ofNat_of_zero_le h0
  refine idx_nat ?_
  unfold rng
  rw [List.map_map, List.getElem?_map, List.getElem?_range (by omega)]
  show some (f (0 + (i : Int))) = _
  rw [Int.zero_add]
theorem rng_T {lo hi : Int} (h1 : -1000000 ≤ lo) (h2 : lo ≤ 1000000) (h3 : -1000000 ≤ hi) (h4 : hi ≤ 1000000) : rng2T (.int lo) (.int hi) = .ret ((rng lo hi).map D.int) := by
  show rngI lo hi = _
  rw [rng_ok ⟨by omega, by omega, by omega, by omega, by show _ ≤ 16777216; omega⟩]
  unfold rng
  rw [List.map_map]
  rfl
theorem max_int {i j : Int} : bltT .max [.int i, .int j] = .ret (.int (max i j)) := by
  show T.ret (D.int (if j > i then j else i)) = _
  congr 2
  omega
def R9 (l : List Br) (k : Br) : Int := k.s + k.r
structure Sz (l : List Br) (k : Br) : Prop where
  vr : ∀ x ∈ l ++ [k], VR x
  z : ∃ x ∈ l ++ [k], x.s = 0
  s0 : 0 ≤ k.s
  r1 : 1 ≤ k.r
  lim : k.s + 2 * k.r ≤ 1000
def b9i : S := (.cons (.iff (.cmp .ge (.bin .mul (.var 1) (.bin .sub (.bin .add (.idx (.var 5) (.var 6)) (.idx (.var 5) (.bin .sub (.var 3) (.var 6)))) (.idx (.var 5) (.var 3)))) (.var 2)) (.cons (.ret (.tup (.cons (.var 6) (.cons (.bin .sub (.var 3) (.var 6)) .nil)))) .nil) .nil) .nil)
def b9o : S := (.cons (.for_ (.nm 6) (.rng2 (.blt .max (.cons (.int 1) (.cons (.bin .sub (.var 3) (.var 4)) .nil))) (.bin .add (.bin .fdiv (.var 3) (.int 2)) (.int 1))) b9i) .nil)
def paidD (f : Int → Int) (m : Int) : D := .lst ((rng 0 m).map fun x => .int (f x))
def pairD (x : Int × Int) : D := .tup [.int x.2, .int (x.1 - x.2)]
theorem in9 {call : Nat → List D → T D} {f : Int → Int} {d x6 : D} {sg t R T : Int} (s1 : -100 < sg) (s2 : sg < 100) (hR : 1 ≤ R) (hR2 : R ≤ 1000) (hT : 2 ≤ T) (hT2 : T ≤ 2 * R) (x : Sl) :
    ∃ y, forL (bindTg (.nm 6)) (ex call WH b9i) ((rng (max 1 (T - R)) (T / 2 + 1)).map D.int) [.val d, .val (.int sg), .val (.int t), .val (.int T), .val (.int R), .val (paidD f (2 * R + 1)), x] =
      hitK ((rng (max 1 (T - R)) (T / 2 + 1)).findSome? fun o => if hit f sg t (T, o) = true then some (pairD (T, o)) else none) [.val d, .val (.int sg), .val (.int t), .val (.int T), .val (.int R), .val (paidD f (2 * R + 1)), y] := by
  obtain ⟨r2, ⟨y, rfl⟩, e⟩ := for_find (set := bindTg (.nm 6)) (body := ex call WH b9i) (g := D.int) (hit := fun o => if hit f sg t (T, o) = true then some (pairD (T, o)) else none)
    (Inv := fun r => ∃ y, r = [.val d, .val (.int sg), .val (.int t), .val (.int T), .val (.int R), .val (paidD f (2 * R + 1)), y]) (rng (max 1 (T - R)) (T / 2 + 1)) (fun o ho r hr => by
      obtain ⟨y, rfl⟩ := hr
      have ho := mem_rng.mp ho
      refine ⟨_, rfl, _, ⟨.val (.int o), rfl⟩, ?_⟩
      have i1 : idxT (paidD f (2 * R + 1)) (.int o) = .ret (.int (f o)) := by
        show ofO (L2.atI _ _) = _
        rw [idx_rng (by omega) (by omega)]; rfl
      have i2 : idxT (paidD f (2 * R + 1)) (.int (T - o)) = .ret (.int (f (T - o))) := by
        show ofO (L2.atI _ _) = _
        rw [idx_rng (by omega) (by omega)]; rfl
      have i3 : idxT (paidD f (2 * R + 1)) (.int T) = .ret (.int (f T)) := by
        show ofO (L2.atI _ _) = _
        rw [idx_rng (by omega) (by omega)]; rfl
      have q1 := q_mulL (i := sg) (j := f o + f (T - o) - f T) (by omega) (by omega)
      have eg : hit f sg t (T, o) = decide (t ≤ sg * (f o + f (T - o) - f T)) := by
        unfold hit gn
        show decide (sg * (f o + f (T - o) - f (o + (T - o))) ≥ t) = _
        rw [show o + (T - o) = T by omega]
      have l2 : lenT [.int o, .int (T - o)] (.tup [.int o, .int (T - o)]) = .ret (.tup [.int o, .int (T - o)]) := rfl
      rw [eg]
      unfold b9i
      simp only [e_non, e_bl, e_int, e_str, e_var, e_con, e_bin, e_neg, e_cmp, e_chain, e_and, e_or, e_not, e_ite, e_tup, e_lst, e_idx, e_slc, e_call, e_callK, e_blt, e_isk, b_var, b_cmp, b_chain, b_and, b_or, b_not, b_yes, b_call, b_callK, b_blt, b_isk, a_nil, a_cons, r_nil, r_cons, o_nopart, o_part, i_rng1, i_rng2, i_zip, i_enum, i_cap, i_var, i_blt, i_call, i_tup, i_lst, i_idx, i_slc, q_add, q_sub, q_neg, q_lt, q_le, q_gt, q_ge, q_eqI, q_neI, q_isNN, q_isNT, q_isNI, q_isNL, q_isnNN, q_isnNT, q_isnNI, q_isnNL, q_andT, q_andF, q_orT, q_orF, q_not, q_toB, q_part, q_fzI, q_fzB, q_fzS, q_fzN, q_fzT, q_fzL, q_fzW, q_fzSt, q_fzSc, s_nil, s_cons, k_nx, k_rt, k_bk, k_ct, s_asg, s_asgF, s_asgT, k_asg, s_par, s_expr, s_iff, s_retN, s_raise, s_brk, s_cont, s_pass, s_frz, k_frzO, k_frzV, s_retV, k_retO, k_retV, s_ret_non, s_ret_bl, s_ret_int, s_ret_str, s_ret_con, s_ret_bin, s_ret_neg, s_ret_cmp, s_ret_chain, s_ret_and, s_ret_or, s_ret_not, s_ret_ite, s_ret_tup, s_ret_lst, s_ret_idx, s_ret_slc, s_ret_call, s_ret_callK, s_ret_blt, s_ret_isk, s_ret_comp, s_app, k_runR, k_runN, for_nil, k_forN, k_forC, k_forB, k_forR, g_nm, g_tp, o_some, noErr_ret, retK, ret_bind, err_bind, bad_bind, getV, slOf, slO, setAll, parT, List.length_cons, List.length_nil, List.map_cons, List.map_nil, List.getElem?_cons_zero, List.getElem?_cons_succ, List.set_cons_zero, List.set_cons_succ, List.cons_append, List.nil_append, List.replicate_succ, List.replicate_zero, i1, i2, i3, q1]
      by_cases c : t ≤ sg * (f o + f (T - o) - f T)
      · simp only [c, decide_true, if_true, e_non, e_bl, e_int, e_str, e_var, e_con, e_bin, e_neg, e_cmp, e_chain, e_and, e_or, e_not, e_ite, e_tup, e_lst, e_idx, e_slc, e_call, e_callK, e_blt, e_isk, b_var, b_cmp, b_chain, b_and, b_or, b_not, b_yes, b_call, b_callK, b_blt, b_isk, a_nil, a_cons, r_nil, r_cons, o_nopart, o_part, i_rng1, i_rng2, i_zip, i_enum, i_cap, i_var, i_blt, i_call, i_tup, i_lst, i_idx, i_slc, q_add, q_sub, q_neg, q_lt, q_le, q_gt, q_ge, q_eqI, q_neI, q_isNN, q_isNT, q_isNI, q_isNL, q_isnNN, q_isnNT, q_isnNI, q_isnNL, q_andT, q_andF, q_orT, q_orF, q_not, q_toB, q_part, q_fzI, q_fzB, q_fzS, q_fzN, q_fzT, q_fzL, q_fzW, q_fzSt, q_fzSc, s_nil, s_cons, k_nx, k_rt, k_bk, k_ct, s_asg, s_asgF, s_asgT, k_asg, s_par, s_expr, s_iff, s_retN, s_raise, s_brk, s_cont, s_pass, s_frz, k_frzO, k_frzV, s_retV, k_retO, k_retV, s_ret_non, s_ret_bl, s_ret_int, s_ret_str, s_ret_con, s_ret_bin, s_ret_neg, s_ret_cmp, s_ret_chain, s_ret_and, s_ret_or, s_ret_not, s_ret_ite, s_ret_tup, s_ret_lst, s_ret_idx, s_ret_slc, s_ret_call, s_ret_callK, s_ret_blt, s_ret_isk, s_ret_comp, s_app, k_runR, k_runN, for_nil, k_forN, k_forC, k_forB, k_forR, g_nm, g_tp, o_some, noErr_ret, retK, ret_bind, err_bind, bad_bind, getV, slOf, slO, setAll, parT, List.length_cons, List.length_nil, List.map_cons, List.map_nil, List.getElem?_cons_zero, List.getElem?_cons_succ, List.set_cons_zero, List.set_cons_succ, List.cons_append, List.nil_append, List.replicate_succ, List.replicate_zero, l2]
        rfl
      · simp only [c, decide_false, Bool.false_eq_true, if_false, e_non, e_bl, e_int, e_str, e_var, e_con, e_bin, e_neg, e_cmp, e_chain, e_and, e_or, e_not, e_ite, e_tup, e_lst, e_idx, e_slc, e_call, e_callK, e_blt, e_isk, b_var, b_cmp, b_chain, b_and, b_or, b_not, b_yes, b_call, b_callK, b_blt, b_isk, a_nil, a_cons, r_nil, r_cons, o_nopart, o_part, i_rng1, i_rng2, i_zip, i_enum, i_cap, i_var, i_blt, i_call, i_tup, i_lst, i_idx, i_slc, q_add, q_sub, q_neg, q_lt, q_le, q_gt, q_ge, q_eqI, q_neI, q_isNN, q_isNT, q_isNI, q_isNL, q_isnNN, q_isnNT, q_isnNI, q_isnNL, q_andT, q_andF, q_orT, q_orF, q_not, q_toB, q_part, q_fzI, q_fzB, q_fzS, q_fzN, q_fzT, q_fzL, q_fzW, q_fzSt, q_fzSc, s_nil, s_cons, k_nx, k_rt, k_bk, k_ct, s_asg, s_asgF, s_asgT, k_asg, s_par, s_expr, s_iff, s_retN, s_raise, s_brk, s_cont, s_pass, s_frz, k_frzO, k_frzV, s_retV, k_retO, k_retV, s_ret_non, s_ret_bl, s_ret_int, s_ret_str, s_ret_con, s_ret_bin, s_ret_neg, s_ret_cmp, s_ret_chain, s_ret_and, s_ret_or, s_ret_not, s_ret_ite, s_ret_tup, s_ret_lst, s_ret_idx, s_ret_slc, s_ret_call, s_ret_callK, s_ret_blt, s_ret_isk, s_ret_comp, s_app, k_runR, k_runN, for_nil, k_forN, k_forC, k_forB, k_forR, g_nm, g_tp, o_some, noErr_ret, retK, ret_bind, err_bind, bad_bind, getV, slOf, slO, setAll, parT, List.length_cons, List.length_nil, List.map_cons, List.map_nil, List.getElem?_cons_zero, List.getElem?_cons_succ, List.set_cons_zero, List.set_cons_succ, List.cons_append, List.nil_append, List.replicate_succ, List.replicate_zero]
        rfl) _ ⟨x, rfl⟩
  exact ⟨y, e⟩
theorem out9 {call : Nat → List D → T D} {f : Int → Int} {d : D} {sg t R : Int} (s1 : -100 < sg) (s2 : sg < 100) (hR : 1 ≤ R) (hR2 : R ≤ 1000) (x3 x6 : Sl) :
    ∃ y3 y6, forL (bindTg (.nm 3)) (ex call WH b9o) ((rng 2 (2 * R + 1)).map D.int) [.val d, .val (.int sg), .val (.int t), x3, .val (.int R), .val (paidD f (2 * R + 1)), x6] =
      hitK (((LP R).find? (hit f sg t)).map pairD) [.val d, .val (.int sg), .val (.int t), y3, .val (.int R), .val (paidD f (2 * R + 1)), y6] := by
  obtain ⟨r2, ⟨y3, y6, rfl⟩, e⟩ := for_find (set := bindTg (.nm 3)) (body := ex call WH b9o) (g := D.int) (hit := fun T => (rng (max 1 (T - R)) (T / 2 + 1)).findSome? fun o => if hit f sg t (T, o) = true then some (pairD (T, o)) else none)
    (Inv := fun r => ∃ y3 y6, r = [.val d, .val (.int sg), .val (.int t), y3, .val (.int R), .val (paidD f (2 * R + 1)), y6]) (rng 2 (2 * R + 1)) (fun T hT r hr => by
      obtain ⟨y3, y6, rfl⟩ := hr
      have hT := mem_rng.mp hT
      obtain ⟨y, e⟩ := in9 (call := call) (f := f) (d := d) (x6 := .non) (sg := sg) (t := t) (R := R) (T := T) s1 s2 hR hR2 (by omega) (by omega) y6
      refine ⟨_, rfl, _, ⟨.val (.int T), y, rfl⟩, ?_⟩
      have q2 := q_fdiv (i := T) (j := 2) (by decide) (by decide)
      have hr := rng_T (lo := max 1 (T - R)) (hi := T / 2 + 1) (by omega) (by omega) (by omega) (by omega)
      unfold b9o
      simp only [e_non, e_bl, e_int, e_str, e_var, e_con, e_bin, e_neg, e_cmp, e_chain, e_and, e_or, e_not, e_ite, e_tup, e_lst, e_idx, e_slc, e_call, e_callK, e_blt, e_isk, b_var, b_cmp, b_chain, b_and, b_or, b_not, b_yes, b_call, b_callK, b_blt, b_isk, a_nil, a_cons, r_nil, r_cons, o_nopart, o_part, i_rng1, i_rng2, i_zip, i_enum, i_cap, i_var, i_blt, i_call, i_tup, i_lst, i_idx, i_slc, q_add, q_sub, q_neg, q_lt, q_le, q_gt, q_ge, q_eqI, q_neI, q_isNN, q_isNT, q_isNI, q_isNL, q_isnNN, q_isnNT, q_isnNI, q_isnNL, q_andT, q_andF, q_orT, q_orF, q_not, q_toB, q_part, q_fzI, q_fzB, q_fzS, q_fzN, q_fzT, q_fzL, q_fzW, q_fzSt, q_fzSc, s_nil, s_cons, k_nx, k_rt, k_bk, k_ct, s_asg, s_asgF, s_asgT, k_asg, s_par, s_expr, s_iff, s_retN, s_raise, s_brk, s_cont, s_pass, s_frz, k_frzO, k_frzV, s_retV, k_retO, k_retV, s_ret_non, s_ret_bl, s_ret_int, s_ret_str, s_ret_con, s_ret_bin, s_ret_neg, s_ret_cmp, s_ret_chain, s_ret_and, s_ret_or, s_ret_not, s_ret_ite, s_ret_tup, s_ret_lst, s_ret_idx, s_ret_slc, s_ret_call, s_ret_callK, s_ret_blt, s_ret_isk, s_ret_comp, s_app, k_runR, k_runN, for_nil, k_forN, k_forC, k_forB, k_forR, g_nm, g_tp, o_some, noErr_ret, retK, ret_bind, err_bind, bad_bind, getV, slOf, slO, setAll, parT, List.length_cons, List.length_nil, List.map_cons, List.map_nil, List.getElem?_cons_zero, List.getElem?_cons_succ, List.set_cons_zero, List.set_cons_succ, List.cons_append, List.nil_append, List.replicate_succ, List.replicate_zero, s_for, q2, max_int, hr, e]
      cases (rng (max 1 (T - R)) (T / 2 + 1)).findSome? fun o => if hit f sg t (T, o) = true then some (pairD (T, o)) else none with
      | some v => rfl
      | none => rfl) _ ⟨x3, x6, rfl⟩
  refine ⟨y3, y6, ?_⟩
  rw [e]
  congr 1
  exact findSome_pairs (M := fun T => rng (max 1 (T - R)) (T / 2 + 1)) (p := hit f sg t) (v := pairD) (rng 2 (2 * R + 1))
def optD : Option (Int × Int) → D
  | some x => pairD x
  | none => .non
theorem f9 {n : Nat} {l : List Br} {k : Br} (z : Sz l k) {sg t : Int} (s1 : -100 < sg) (s2 : sg < 100) :
    callF tab WH (n + 3) 9 [scD (l ++ [k]), .int sg, .int t] = .ret (optD ((LP (k.s + k.r)).find? (hit (pay (l ++ [k])) sg t))) := by
  show runD (callF tab WH (n + 2)) WH d9 _ = _
  rw [run_eq rfl]
  obtain ⟨z1, z2, z3, z4, z5⟩ := z
  have e8 := f8 (n := n + 1) (l := l) (k := k)
  have q1 := q_mulL (i := 2) (j := k.s + k.r) (by decide) (by decide)
  have e7 := f7 (n := n) (l := l ++ [k]) (m := 2 * (k.s + k.r)) z1 z2 (by omega) (by omega)
  have fz1 : fz (scD (l ++ [k])) = .ret (scD (l ++ [k])) := rfl
  obtain ⟨y3, y6, e⟩ := out9 (call := callF tab WH (n + 2)) (f := pay (l ++ [k])) (d := scD (l ++ [k])) (sg := sg) (t := t) (R := k.s + k.r) s1 s2 (by omega) (by omega) .un .un
  have hr := rng_T (lo := 2) (hi := 2 * (k.s + k.r) + 1) (by omega) (by omega) (by omega) (by omega)
  unfold b9o b9i paidD at e
  simp only [d9, startE]
  simp only [e_non, e_bl, e_int, e_str, e_var, e_con, e_bin, e_neg, e_cmp, e_chain, e_and, e_or, e_not, e_ite, e_tup, e_lst, e_idx, e_slc, e_call, e_callK, e_blt, e_isk, b_var, b_cmp, b_chain, b_and, b_or, b_not, b_yes, b_call, b_callK, b_blt, b_isk, a_nil, a_cons, r_nil, r_cons, o_nopart, o_part, i_rng1, i_rng2, i_zip, i_enum, i_cap, i_var, i_blt, i_call, i_tup, i_lst, i_idx, i_slc, q_add, q_sub, q_neg, q_lt, q_le, q_gt, q_ge, q_eqI, q_neI, q_isNN, q_isNT, q_isNI, q_isNL, q_isnNN, q_isnNT, q_isnNI, q_isnNL, q_andT, q_andF, q_orT, q_orF, q_not, q_toB, q_part, q_fzI, q_fzB, q_fzS, q_fzN, q_fzT, q_fzL, q_fzW, q_fzSt, q_fzSc, s_nil, s_cons, k_nx, k_rt, k_bk, k_ct, s_asg, s_asgF, s_asgT, k_asg, s_par, s_expr, s_iff, s_retN, s_raise, s_brk, s_cont, s_pass, s_frz, k_frzO, k_frzV, s_retV, k_retO, k_retV, s_ret_non, s_ret_bl, s_ret_int, s_ret_str, s_ret_con, s_ret_bin, s_ret_neg, s_ret_cmp, s_ret_chain, s_ret_and, s_ret_or, s_ret_not, s_ret_ite, s_ret_tup, s_ret_lst, s_ret_idx, s_ret_slc, s_ret_call, s_ret_callK, s_ret_blt, s_ret_isk, s_ret_comp, s_app, k_runR, k_runN, for_nil, k_forN, k_forC, k_forB, k_forR, g_nm, g_tp, o_some, noErr_ret, retK, ret_bind, err_bind, bad_bind, getV, slOf, slO, setAll, parT, List.length_cons, List.length_nil, List.map_cons, List.map_nil, List.getElem?_cons_zero, List.getElem?_cons_succ, List.set_cons_zero, List.set_cons_succ, List.cons_append, List.nil_append, List.replicate_succ, List.replicate_zero, s_for, fz1, e8, e7, q1, hr, e]
  cases (LP (k.s + k.r)).find? (hit (pay (l ++ [k])) sg t) with
  | some v => rfl
  | none => rfl
end LW
end
section
set_option maxHeartbeats 1000000
namespace LW
open PySem PV
theorem paid_at {f : Int → Int} {m o : Int} (h0 : 0 ≤ o) (h1 : o < m) : idxT (paidD f m) (.int o) = .ret (.int (f o)) := by
  show ofO (L2.atI _ _) = _
  rw [idx_rng h0 h1]
  rfl
theorem maxL_new {m : Int} {gs : List Int} : bltT .max [.new (D.int m :: gs.map D.int)] = .ret (.int (gs.foldl max m)) := by
  have e : intsD (gs.map D.int) = some gs := by
    induction gs with
    | nil => rfl
    | cons g gs ih =>
      show (intsD (gs.map D.int)).map (g :: ·) = _
      rw [ih]
      rfl
  show (match (seqI (.new (D.int m :: gs.map D.int))).bind maxL with | some m => T.ret (D.int m) | none => T.bad) = _
  have e2 : seqI (.new (D.int m :: gs.map D.int)) = some (m :: gs) := by
    show (intsD (gs.map D.int)).map (m :: ·) = _
    rw [e]
    rfl
  rw [e2]
  rfl
theorem add_new {xs ys : List D} (h : xs.length + ys.length ≤ 16777216) : binT .add (.new xs) (.new ys) = .ret (.new (xs ++ ys)) := by
  exact if_pos h
theorem rng_length {lo hi : Int} : (rng lo hi).length = (hi - lo).toNat := by unfold rng; rw [List.length_map, List.length_range]
def b10 : S := (.cons (.asgF 2 (.blt .max (.cons (.bin .add (.lst (.cons (.var 2) .nil)) (.comp (.nm 6) (.rng2 (.var 3) (.bin .add (.var 4) (.int 1))) .yes (.bin .mul (.var 1) (.bin .sub (.bin .add (.idx (.var 5) (.var 3)) (.idx (.var 5) (.var 6))) (.idx (.var 5) (.bin .add (.var 3) (.var 6))))) [("two", 6)])) .nil))) .nil)
theorem out10 {call : Nat → List D → T D} {f : Int → Int} {d : D} {sg R : Int} (s1 : -100 < sg) (s2 : sg < 100) (hR : 1 ≤ R) (hR2 : R ≤ 1000) (M : Int) (x3 x6 : Sl) :
    ∃ y3 y6, forL (bindTg (.nm 3)) (ex call WH b10) ((rng 1 (R + 1)).map D.int) [.val d, .val (.int sg), .val (.int M), x3, .val (.int R), .val (paidD f (2 * R + 1)), x6] =
      .ret (.nx [.val d, .val (.int sg), .val (.int ((rng 1 (R + 1)).foldl (fun m o => ((rng o (R + 1)).map fun y => sg * gn f o y).foldl max m) M)), y3, .val (.int R), .val (paidD f (2 * R + 1)), y6]) := by
  obtain ⟨r2, ⟨y3, y6, rfl⟩, e⟩ := for_fold (set := bindTg (.nm 3)) (body := ex call WH b10) (g := D.int) (step := fun o m => ((rng o (R + 1)).map fun y => sg * gn f o y).foldl max m)
    (Inv := fun (m : Int) r => ∃ y3 y6, r = [.val d, .val (.int sg), .val (.int m), y3, .val (.int R), .val (paidD f (2 * R + 1)), y6]) (rng 1 (R + 1)) (fun o ho m r hr => by
      obtain ⟨y3, y6, rfl⟩ := hr
      have ho := mem_rng.mp ho
      refine ⟨_, rfl, _, ⟨.val (.int o), y6, rfl⟩, ?_⟩
      have hr := rng_T (lo := o) (hi := R + 1) (by omega) (by omega) (by omega) (by omega)
      have l1 : lenT [.int m] (.new [.int m]) = .ret (.new [.int m]) := rfl
      have hc : compL (compF (.nm 6) [6] (evs call .yes).B (evs call (.bin .mul (.var 1) (.bin .sub (.bin .add (.idx (.var 5) (.var 3)) (.idx (.var 5) (.var 6))) (.idx (.var 5) (.bin .add (.var 3) (.var 6)))))).E [.val d, .val (.int sg), .val (.int m), .val (.int o), .val (.int R), .val (paidD f (2 * R + 1)), y6]) ((rng o (R + 1)).map D.int) = .ret ((rng o (R + 1)).map fun y => .int (sg * gn f o y)) := by
        refine comp_mapM fun y hy => ?_
        have hy := mem_rng.mp hy
        have i1 := paid_at (f := f) (m := 2 * R + 1) (o := o) (by omega) (by omega)
        have i2 := paid_at (f := f) (m := 2 * R + 1) (o := y) (by omega) (by omega)
        have i3 := paid_at (f := f) (m := 2 * R + 1) (o := o + y) (by omega) (by omega)
        have q1 := q_mulL (i := sg) (j := f o + f y - f (o + y)) (by omega) (by omega)
        simp only [compF_eq, wipeE, e_non, e_bl, e_int, e_str, e_var, e_con, e_bin, e_neg, e_cmp, e_chain, e_and, e_or, e_not, e_ite, e_tup, e_lst, e_idx, e_slc, e_call, e_callK, e_blt, e_isk, b_var, b_cmp, b_chain, b_and, b_or, b_not, b_yes, b_call, b_callK, b_blt, b_isk, a_nil, a_cons, r_nil, r_cons, o_nopart, o_part, i_rng1, i_rng2, i_zip, i_enum, i_cap, i_var, i_blt, i_call, i_tup, i_lst, i_idx, i_slc, q_add, q_sub, q_neg, q_lt, q_le, q_gt, q_ge, q_eqI, q_neI, q_isNN, q_isNT, q_isNI, q_isNL, q_isnNN, q_isnNT, q_isnNI, q_isnNL, q_andT, q_andF, q_orT, q_orF, q_not, q_toB, q_part, q_fzI, q_fzB, q_fzS, q_fzN, q_fzT, q_fzL, q_fzW, q_fzSt, q_fzSc, s_nil, s_cons, k_nx, k_rt, k_bk, k_ct, s_asg, s_asgF, s_asgT, k_asg, s_par, s_expr, s_iff, s_retN, s_raise, s_brk, s_cont, s_pass, s_frz, k_frzO, k_frzV, s_retV, k_retO, k_retV, s_ret_non, s_ret_bl, s_ret_int, s_ret_str, s_ret_con, s_ret_bin, s_ret_neg, s_ret_cmp, s_ret_chain, s_ret_and, s_ret_or, s_ret_not, s_ret_ite, s_ret_tup, s_ret_lst, s_ret_idx, s_ret_slc, s_ret_call, s_ret_callK, s_ret_blt, s_ret_isk, s_ret_comp, s_app, k_runR, k_runN, for_nil, k_forN, k_forC, k_forB, k_forR, g_nm, g_tp, o_some, noErr_ret, Yes, retK, ret_bind, err_bind, bad_bind, draw_bind, getV, slOf, slO, setAll, parT, List.length_cons, List.length_nil, List.map_cons, List.map_nil, List.getElem?_cons_zero, List.getElem?_cons_succ, List.set_cons_zero, List.set_cons_succ, List.cons_append, List.nil_append, List.replicate_succ, List.replicate_zero, i1, i2, i3, q1, if_true]
        rfl
      have hl : (1 : Nat) + ((rng o (R + 1)).map fun y => D.int (sg * gn f o y)).length ≤ 16777216 := by
        rw [List.length_map, rng_length]
        omega
      have ha := add_new (xs := [D.int m]) (ys := (rng o (R + 1)).map fun y => D.int (sg * gn f o y)) hl
      have hm := maxL_new (m := m) (gs := (rng o (R + 1)).map fun y => sg * gn f o y)
      rw [List.map_map] at hm
      unfold b10
      simp only [e_non, e_bl, e_int, e_str, e_var, e_con, e_bin, e_neg, e_cmp, e_chain, e_and, e_or, e_not, e_ite, e_tup, e_lst, e_idx, e_slc, e_call, e_callK, e_blt, e_isk, b_var, b_cmp, b_chain, b_and, b_or, b_not, b_yes, b_call, b_callK, b_blt, b_isk, a_nil, a_cons, r_nil, r_cons, o_nopart, o_part, i_rng1, i_rng2, i_zip, i_enum, i_cap, i_var, i_blt, i_call, i_tup, i_lst, i_idx, i_slc, q_add, q_sub, q_neg, q_lt, q_le, q_gt, q_ge, q_eqI, q_neI, q_isNN, q_isNT, q_isNI, q_isNL, q_isnNN, q_isnNT, q_isnNI, q_isnNL, q_andT, q_andF, q_orT, q_orF, q_not, q_toB, q_part, q_fzI, q_fzB, q_fzS, q_fzN, q_fzT, q_fzL, q_fzW, q_fzSt, q_fzSc, s_nil, s_cons, k_nx, k_rt, k_bk, k_ct, s_asg, s_asgF, s_asgT, k_asg, s_par, s_expr, s_iff, s_retN, s_raise, s_brk, s_cont, s_pass, s_frz, k_frzO, k_frzV, s_retV, k_retO, k_retV, s_ret_non, s_ret_bl, s_ret_int, s_ret_str, s_ret_con, s_ret_bin, s_ret_neg, s_ret_cmp, s_ret_chain, s_ret_and, s_ret_or, s_ret_not, s_ret_ite, s_ret_tup, s_ret_lst, s_ret_idx, s_ret_slc, s_ret_call, s_ret_callK, s_ret_blt, s_ret_isk, s_ret_comp, s_app, k_runR, k_runN, for_nil, k_forN, k_forC, k_forB, k_forR, g_nm, g_tp, o_some, noErr_ret, Yes, retK, ret_bind, err_bind, bad_bind, draw_bind, getV, slOf, slO, setAll, parT, List.length_cons, List.length_nil, List.map_cons, List.map_nil, List.getElem?_cons_zero, List.getElem?_cons_succ, List.set_cons_zero, List.set_cons_succ, List.cons_append, List.nil_append, List.replicate_succ, List.replicate_zero, e_comp, hr, hc, noErr_ret, l1, ha]
      rw [show bltT .max [.new (D.int m :: (rng o (R + 1)).map fun y => D.int (sg * gn f o y))] = _ from hm]
      rfl) M _ ⟨x3, x6, rfl⟩
  exact ⟨y3, y6, e⟩
def mostD (M : Int) (x : Int × Int) : D := .tup [.int M, .int x.2, .int (x.1 - x.2)]
theorem Sz.per {l : List Br} {k : Br} (z : Sz l k) : Per (pay (l ++ [k])) k.s k.r := pay_per z.s0 z.r1
theorem f10 {n : Nat} {l : List Br} {k : Br} (z : Sz l k) {sg : Int} (s1 : -100 < sg) (s2 : sg < 100) {x : Int × Int} (hx : (LP (k.s + k.r)).find? (hit (pay (l ++ [k])) sg (bigM (pay (l ++ [k])) sg (k.s + k.r))) = some x) :
    callF tab WH (n + 4) 10 [scD (l ++ [k]), .int sg] = .ret (mostD (bigM (pay (l ++ [k])) sg (k.s + k.r)) x) := by
  show runD (callF tab WH (n + 3)) WH d10 _ = _
  rw [run_eq rfl]
  obtain ⟨z1, z2, z3, z4, z5⟩ := id z
  have e8 := f8 (n := n + 2) (l := l) (k := k)
  have q1 := q_mulL (i := 2) (j := k.s + k.r) (by decide) (by decide)
  have e7 := f7 (n := n + 1) (l := l ++ [k]) (m := 2 * (k.s + k.r)) z1 z2 (by omega) (by omega)
  have fz1 : fz (scD (l ++ [k])) = .ret (scD (l ++ [k])) := rfl
  have i1 := paid_at (f := pay (l ++ [k])) (m := 2 * (k.s + k.r) + 1) (o := 1) (by omega) (by omega)
  have i2 := paid_at (f := pay (l ++ [k])) (m := 2 * (k.s + k.r) + 1) (o := 2) (by omega) (by omega)
  have q2 := q_mulL (i := 2) (j := pay (l ++ [k]) 1) (by decide) (by decide)
  have q3 := q_mulL (i := sg) (j := gn (pay (l ++ [k])) 1 1) (by omega) (by omega)
  have eg : 2 * pay (l ++ [k]) 1 - pay (l ++ [k]) 2 = gn (pay (l ++ [k])) 1 1 := by
    unfold gn
    show _ = _ - pay (l ++ [k]) 2
    omega
  obtain ⟨y3, y6, e⟩ := out10 (call := callF tab WH (n + 3)) (f := pay (l ++ [k])) (d := scD (l ++ [k])) (sg := sg) (R := k.s + k.r) s1 s2 (by omega) (by omega) (sg * gn (pay (l ++ [k])) 1 1) .un .un
  have hr := rng_T (lo := 1) (hi := k.s + k.r + 1) (by omega) (by omega) (by omega) (by omega)
  have e9 := f9 (n := n) z (sg := sg) (t := bigM (pay (l ++ [k])) sg (k.s + k.r)) s1 s2
  rw [hx] at e9
  have lt : ∀ a b : D, lenT [a, b] (.tup [a, b]) = .ret (.tup [a, b]) := fun _ _ => rfl
  have lt1 : ∀ a : D, lenT [a] (.tup [a]) = .ret (.tup [a]) := fun _ => rfl
  have ad : ∀ a b c : D, binT .add (.tup [a]) (.tup [b, c]) = .ret (.tup [a, b, c]) := fun _ _ _ => rfl
  unfold b10 paidD at e
  unfold paidD at i1 i2
  unfold bigM at e9 hx ⊢
  simp only [d10, startE]
  simp only [e_non, e_bl, e_int, e_str, e_var, e_con, e_bin, e_neg, e_cmp, e_chain, e_and, e_or, e_not, e_ite, e_tup, e_lst, e_idx, e_slc, e_call, e_callK, e_blt, e_isk, b_var, b_cmp, b_chain, b_and, b_or, b_not, b_yes, b_call, b_callK, b_blt, b_isk, a_nil, a_cons, r_nil, r_cons, o_nopart, o_part, i_rng1, i_rng2, i_zip, i_enum, i_cap, i_var, i_blt, i_call, i_tup, i_lst, i_idx, i_slc, q_add, q_sub, q_neg, q_lt, q_le, q_gt, q_ge, q_eqI, q_neI, q_isNN, q_isNT, q_isNI, q_isNL, q_isnNN, q_isnNT, q_isnNI, q_isnNL, q_andT, q_andF, q_orT, q_orF, q_not, q_toB, q_part, q_fzI, q_fzB, q_fzS, q_fzN, q_fzT, q_fzL, q_fzW, q_fzSt, q_fzSc, s_nil, s_cons, k_nx, k_rt, k_bk, k_ct, s_asg, s_asgF, s_asgT, k_asg, s_par, s_expr, s_iff, s_retN, s_raise, s_brk, s_cont, s_pass, s_frz, k_frzO, k_frzV, s_retV, k_retO, k_retV, s_ret_non, s_ret_bl, s_ret_int, s_ret_str, s_ret_con, s_ret_bin, s_ret_neg, s_ret_cmp, s_ret_chain, s_ret_and, s_ret_or, s_ret_not, s_ret_ite, s_ret_tup, s_ret_lst, s_ret_idx, s_ret_slc, s_ret_call, s_ret_callK, s_ret_blt, s_ret_isk, s_ret_comp, s_app, k_runR, k_runN, for_nil, k_forN, k_forC, k_forB, k_forR, g_nm, g_tp, o_some, noErr_ret, Yes, retK, ret_bind, err_bind, bad_bind, draw_bind, getV, slOf, slO, setAll, parT, List.length_cons, List.length_nil, List.map_cons, List.map_nil, List.getElem?_cons_zero, List.getElem?_cons_succ, List.set_cons_zero, List.set_cons_succ, List.cons_append, List.nil_append, List.replicate_succ, List.replicate_zero, s_for, fz1, e8, e7, q1, lt, i1, i2, q2, q3, eg, hr, e, lt1, e9, optD, pairD, ad]
  rfl

/-! _law_k36_due -/
def b21i : S := (.cons (.asgF 9 (.bin .mul (.var 1) (.bin .sub (.bin .add (.idx (.var 2) (.var 7)) (.idx (.var 2) (.bin .sub (.var 3) (.var 7)))) (.idx (.var 2) (.var 3))))) (.cons (.iff (.and (.cmp .gt (.var 9) (.int 0)) (.cmp .is (.var 5) .non)) (.cons (.asgF 5 (.tup (.cons (.var 7) (.cons (.bin .sub (.var 3) (.var 7)) .nil)))) .nil) .nil) (.cons (.iff (.or (.cmp .is (.var 6) .non) (.cmp .gt (.var 9) (.idx (.var 6) (.int 0)))) (.cons (.asgF 6 (.tup (.cons (.var 9) (.cons (.var 7) (.cons (.bin .sub (.var 3) (.var 7)) .nil))))) .nil) .nil) .nil)))
def b21o : S := (.cons (.for_ (.nm 7) (.rng2 (.int 1) (.var 3)) b21i) .nil)
def optM : Option (Int × (Int × Int)) → D
  | some m => mostD m.1 m.2
  | none => .non
theorem is_opt {o : Option (Int × Int)} : cmpT .is (optD o) .non = .ret (decide (o = none)) := by cases o <;> rfl
theorem is_optM {o : Option (Int × (Int × Int))} : cmpT .is (optM o) .non = .ret (decide (o = none)) := by cases o <;> rfl
theorem step21 {call : Nat → List D → T D} {f : Int → Int} {d : D} {sg Q T o : Int} (s1 : -100 < sg) (s2 : sg < 100) (hT : 2 ≤ T) (hT2 : T ≤ 2 * Q) (ho : 1 ≤ o) (ho2 : o < T) (s : St) (y7 y8 y9 : Sl) :
    ∃ z9, ex call WH b21i [.val d, .val (.int sg), .val (paidD f (2 * Q + 1)), .val (.int T), .val (.int Q), .val (optD s.1), .val (optM s.2), .val (.int o), y8, y9] =
      .ret (.nx [.val d, .val (.int sg), .val (paidD f (2 * Q + 1)), .val (.int T), .val (.int Q), .val (optD (dueStep f sg s (T, o)).1), .val (optM (dueStep f sg s (T, o)).2), .val (.int o), y8, z9]) := by
  have i1 := paid_at (f := f) (m := 2 * Q + 1) (o := o) (by omega) (by omega)
  have i2 := paid_at (f := f) (m := 2 * Q + 1) (o := T - o) (by omega) (by omega)
  have i3 := paid_at (f := f) (m := 2 * Q + 1) (o := T) (by omega) (by omega)
  have q1 := q_mulL (i := sg) (j := f o + f (T - o) - f T) (by omega) (by omega)
  have eg : sg * (f o + f (T - o) - f T) = val f sg (T, o) := by
    unfold val gn
    show _ = sg * (f o + f (T - o) - f (o + (T - o)))
    rw [show o + (T - o) = T by omega]
  have lt : lenT [.int o, .int (T - o)] (.tup [.int o, .int (T - o)]) = .ret (.tup [.int o, .int (T - o)]) := rfl
  have lt3 : ∀ g : Int, lenT [.int g, .int o, .int (T - o)] (.tup [.int g, .int o, .int (T - o)]) = .ret (.tup [.int g, .int o, .int (T - o)]) := fun _ => rfl
  refine ⟨.val (.int (val f sg (T, o))), ?_⟩
  obtain ⟨a1, a2⟩ := s
  have q1 : binT .mul (.int sg) (.int (f o + f (T - o) - f T)) = .ret (.int (val f sg (T, o))) := by rw [← eg]; exact q_mulL (by omega) (by omega)
  unfold b21i dueStep
  simp only [e_non, e_bl, e_int, e_str, e_var, e_con, e_bin, e_neg, e_cmp, e_chain, e_and, e_or, e_not, e_ite, e_tup, e_lst, e_idx, e_slc, e_call, e_callK, e_blt, e_isk, b_var, b_cmp, b_chain, b_and, b_or, b_not, b_yes, b_call, b_callK, b_blt, b_isk, a_nil, a_cons, r_nil, r_cons, o_nopart, o_part, i_rng1, i_rng2, i_zip, i_enum, i_cap, i_var, i_blt, i_call, i_tup, i_lst, i_idx, i_slc, q_add, q_sub, q_neg, q_lt, q_le, q_gt, q_ge, q_eqI, q_neI, q_isNN, q_isNT, q_isNI, q_isNL, q_isnNN, q_isnNT, q_isnNI, q_isnNL, q_andT, q_andF, q_orT, q_orF, q_not, q_toB, q_part, q_fzI, q_fzB, q_fzS, q_fzN, q_fzT, q_fzL, q_fzW, q_fzSt, q_fzSc, s_nil, s_cons, k_nx, k_rt, k_bk, k_ct, s_asg, s_asgF, s_asgT, k_asg, s_par, s_expr, s_iff, s_retN, s_raise, s_brk, s_cont, s_pass, s_frz, k_frzO, k_frzV, s_retV, k_retO, k_retV, s_ret_non, s_ret_bl, s_ret_int, s_ret_str, s_ret_con, s_ret_bin, s_ret_neg, s_ret_cmp, s_ret_chain, s_ret_and, s_ret_or, s_ret_not, s_ret_ite, s_ret_tup, s_ret_lst, s_ret_idx, s_ret_slc, s_ret_call, s_ret_callK, s_ret_blt, s_ret_isk, s_ret_comp, s_app, k_runR, k_runN, for_nil, k_forN, k_forC, k_forB, k_forR, g_nm, g_tp, o_some, noErr_ret, Yes, retK, ret_bind, err_bind, bad_bind, draw_bind, getV, slOf, slO, setAll, parT, List.length_cons, List.length_nil, List.map_cons, List.map_nil, List.getElem?_cons_zero, List.getElem?_cons_succ, List.set_cons_zero, List.set_cons_succ, List.cons_append, List.nil_append, List.replicate_succ, List.replicate_zero, i1, i2, i3, q1]
  generalize val f sg (T, o) = g at *
  have ix : ∀ (g' : Int) (b c : D), idxT (.tup [.int g', b, c]) (.int 0) = .ret (.int g') := fun _ _ _ => rfl
  have fin : ∀ (e1 : Option (Int × Int)), ex call WH (.cons (.iff (.or (.cmp .is (.var 6) .non) (.cmp .gt (.var 9) (.idx (.var 6) (.int 0)))) (.cons (.asgF 6 (.tup (.cons (.var 9) (.cons (.var 7) (.cons (.bin .sub (.var 3) (.var 7)) .nil))))) .nil) .nil) .nil)
      [.val d, .val (.int sg), .val (paidD f (2 * Q + 1)), .val (.int T), .val (.int Q), .val (optD e1), .val (optM a2), .val (.int o), y8, .val (.int g)] =
      .ret (.nx [.val d, .val (.int sg), .val (paidD f (2 * Q + 1)), .val (.int T), .val (.int Q), .val (optD e1), .val (optM (match a2 with | none => some (g, (T, o)) | some m => if m.1 < g then some (g, (T, o)) else some m)), .val (.int o), y8, .val (.int g)]) := fun e1 => by
    cases a2 with
    | none =>
      simp only [e_non, e_bl, e_int, e_str, e_var, e_con, e_bin, e_neg, e_cmp, e_chain, e_and, e_or, e_not, e_ite, e_tup, e_lst, e_idx, e_slc, e_call, e_callK, e_blt, e_isk, b_var, b_cmp, b_chain, b_and, b_or, b_not, b_yes, b_call, b_callK, b_blt, b_isk, a_nil, a_cons, r_nil, r_cons, o_nopart, o_part, i_rng1, i_rng2, i_zip, i_enum, i_cap, i_var, i_blt, i_call, i_tup, i_lst, i_idx, i_slc, q_add, q_sub, q_neg, q_lt, q_le, q_gt, q_ge, q_eqI, q_neI, q_isNN, q_isNT, q_isNI, q_isNL, q_isnNN, q_isnNT, q_isnNI, q_isnNL, q_andT, q_andF, q_orT, q_orF, q_not, q_toB, q_part, q_fzI, q_fzB, q_fzS, q_fzN, q_fzT, q_fzL, q_fzW, q_fzSt, q_fzSc, s_nil, s_cons, k_nx, k_rt, k_bk, k_ct, s_asg, s_asgF, s_asgT, k_asg, s_par, s_expr, s_iff, s_retN, s_raise, s_brk, s_cont, s_pass, s_frz, k_frzO, k_frzV, s_retV, k_retO, k_retV, s_ret_non, s_ret_bl, s_ret_int, s_ret_str, s_ret_con, s_ret_bin, s_ret_neg, s_ret_cmp, s_ret_chain, s_ret_and, s_ret_or, s_ret_not, s_ret_ite, s_ret_tup, s_ret_lst, s_ret_idx, s_ret_slc, s_ret_call, s_ret_callK, s_ret_blt, s_ret_isk, s_ret_comp, s_app, k_runR, k_runN, for_nil, k_forN, k_forC, k_forB, k_forR, g_nm, g_tp, o_some, noErr_ret, Yes, retK, ret_bind, err_bind, bad_bind, draw_bind, getV, slOf, slO, setAll, parT, List.length_cons, List.length_nil, List.map_cons, List.map_nil, List.getElem?_cons_zero, List.getElem?_cons_succ, List.set_cons_zero, List.set_cons_succ, List.cons_append, List.nil_append, List.replicate_succ, List.replicate_zero, optM, if_true, lt3]
      rfl
    | some m =>
      by_cases c : m.1 < g
      · simp only [e_non, e_bl, e_int, e_str, e_var, e_con, e_bin, e_neg, e_cmp, e_chain, e_and, e_or, e_not, e_ite, e_tup, e_lst, e_idx, e_slc, e_call, e_callK, e_blt, e_isk, b_var, b_cmp, b_chain, b_and, b_or, b_not, b_yes, b_call, b_callK, b_blt, b_isk, a_nil, a_cons, r_nil, r_cons, o_nopart, o_part, i_rng1, i_rng2, i_zip, i_enum, i_cap, i_var, i_blt, i_call, i_tup, i_lst, i_idx, i_slc, q_add, q_sub, q_neg, q_lt, q_le, q_gt, q_ge, q_eqI, q_neI, q_isNN, q_isNT, q_isNI, q_isNL, q_isnNN, q_isnNT, q_isnNI, q_isnNL, q_andT, q_andF, q_orT, q_orF, q_not, q_toB, q_part, q_fzI, q_fzB, q_fzS, q_fzN, q_fzT, q_fzL, q_fzW, q_fzSt, q_fzSc, s_nil, s_cons, k_nx, k_rt, k_bk, k_ct, s_asg, s_asgF, s_asgT, k_asg, s_par, s_expr, s_iff, s_retN, s_raise, s_brk, s_cont, s_pass, s_frz, k_frzO, k_frzV, s_retV, k_retO, k_retV, s_ret_non, s_ret_bl, s_ret_int, s_ret_str, s_ret_con, s_ret_bin, s_ret_neg, s_ret_cmp, s_ret_chain, s_ret_and, s_ret_or, s_ret_not, s_ret_ite, s_ret_tup, s_ret_lst, s_ret_idx, s_ret_slc, s_ret_call, s_ret_callK, s_ret_blt, s_ret_isk, s_ret_comp, s_app, k_runR, k_runN, for_nil, k_forN, k_forC, k_forB, k_forR, g_nm, g_tp, o_some, noErr_ret, Yes, retK, ret_bind, err_bind, bad_bind, draw_bind, getV, slOf, slO, setAll, parT, List.length_cons, List.length_nil, List.map_cons, List.map_nil, List.getElem?_cons_zero, List.getElem?_cons_succ, List.set_cons_zero, List.set_cons_succ, List.cons_append, List.nil_append, List.replicate_succ, List.replicate_zero, optM, mostD, ix, c, decide_true, if_true, Bool.false_eq_true, if_false, lt3]
      · simp only [e_non, e_bl, e_int, e_str, e_var, e_con, e_bin, e_neg, e_cmp, e_chain, e_and, e_or, e_not, e_ite, e_tup, e_lst, e_idx, e_slc, e_call, e_callK, e_blt, e_isk, b_var, b_cmp, b_chain, b_and, b_or, b_not, b_yes, b_call, b_callK, b_blt, b_isk, a_nil, a_cons, r_nil, r_cons, o_nopart, o_part, i_rng1, i_rng2, i_zip, i_enum, i_cap, i_var, i_blt, i_call, i_tup, i_lst, i_idx, i_slc, q_add, q_sub, q_neg, q_lt, q_le, q_gt, q_ge, q_eqI, q_neI, q_isNN, q_isNT, q_isNI, q_isNL, q_isnNN, q_isnNT, q_isnNI, q_isnNL, q_andT, q_andF, q_orT, q_orF, q_not, q_toB, q_part, q_fzI, q_fzB, q_fzS, q_fzN, q_fzT, q_fzL, q_fzW, q_fzSt, q_fzSc, s_nil, s_cons, k_nx, k_rt, k_bk, k_ct, s_asg, s_asgF, s_asgT, k_asg, s_par, s_expr, s_iff, s_retN, s_raise, s_brk, s_cont, s_pass, s_frz, k_frzO, k_frzV, s_retV, k_retO, k_retV, s_ret_non, s_ret_bl, s_ret_int, s_ret_str, s_ret_con, s_ret_bin, s_ret_neg, s_ret_cmp, s_ret_chain, s_ret_and, s_ret_or, s_ret_not, s_ret_ite, s_ret_tup, s_ret_lst, s_ret_idx, s_ret_slc, s_ret_call, s_ret_callK, s_ret_blt, s_ret_isk, s_ret_comp, s_app, k_runR, k_runN, for_nil, k_forN, k_forC, k_forB, k_forR, g_nm, g_tp, o_some, noErr_ret, Yes, retK, ret_bind, err_bind, bad_bind, draw_bind, getV, slOf, slO, setAll, parT, List.length_cons, List.length_nil, List.map_cons, List.map_nil, List.getElem?_cons_zero, List.getElem?_cons_succ, List.set_cons_zero, List.set_cons_succ, List.cons_append, List.nil_append, List.replicate_succ, List.replicate_zero, optM, mostD, ix, c, decide_false, Bool.false_eq_true, if_false, lt3]
  by_cases c : 0 < g
  · cases a1 with
    | none =>
      have f1 := fin (some (T, o))
      simp only [optD, pairD] at f1
      simp only [e_non, e_bl, e_int, e_str, e_var, e_con, e_bin, e_neg, e_cmp, e_chain, e_and, e_or, e_not, e_ite, e_tup, e_lst, e_idx, e_slc, e_call, e_callK, e_blt, e_isk, b_var, b_cmp, b_chain, b_and, b_or, b_not, b_yes, b_call, b_callK, b_blt, b_isk, a_nil, a_cons, r_nil, r_cons, o_nopart, o_part, i_rng1, i_rng2, i_zip, i_enum, i_cap, i_var, i_blt, i_call, i_tup, i_lst, i_idx, i_slc, q_add, q_sub, q_neg, q_lt, q_le, q_gt, q_ge, q_eqI, q_neI, q_isNN, q_isNT, q_isNI, q_isNL, q_isnNN, q_isnNT, q_isnNI, q_isnNL, q_andT, q_andF, q_orT, q_orF, q_not, q_toB, q_part, q_fzI, q_fzB, q_fzS, q_fzN, q_fzT, q_fzL, q_fzW, q_fzSt, q_fzSc, s_nil, s_cons, k_nx, k_rt, k_bk, k_ct, s_asg, s_asgF, s_asgT, k_asg, s_par, s_expr, s_iff, s_retN, s_raise, s_brk, s_cont, s_pass, s_frz, k_frzO, k_frzV, s_retV, k_retO, k_retV, s_ret_non, s_ret_bl, s_ret_int, s_ret_str, s_ret_con, s_ret_bin, s_ret_neg, s_ret_cmp, s_ret_chain, s_ret_and, s_ret_or, s_ret_not, s_ret_ite, s_ret_tup, s_ret_lst, s_ret_idx, s_ret_slc, s_ret_call, s_ret_callK, s_ret_blt, s_ret_isk, s_ret_comp, s_app, k_runR, k_runN, for_nil, k_forN, k_forC, k_forB, k_forR, g_nm, g_tp, o_some, noErr_ret, Yes, retK, ret_bind, err_bind, bad_bind, draw_bind, getV, slOf, slO, setAll, parT, List.length_cons, List.length_nil, List.map_cons, List.map_nil, List.getElem?_cons_zero, List.getElem?_cons_succ, List.set_cons_zero, List.set_cons_succ, List.cons_append, List.nil_append, List.replicate_succ, List.replicate_zero, optD, c, decide_true, if_true, true_and, lt, f1]
      rfl
    | some z =>
      have f1 := fin (some z)
      simp only [optD, pairD] at f1
      simp only [e_non, e_bl, e_int, e_str, e_var, e_con, e_bin, e_neg, e_cmp, e_chain, e_and, e_or, e_not, e_ite, e_tup, e_lst, e_idx, e_slc, e_call, e_callK, e_blt, e_isk, b_var, b_cmp, b_chain, b_and, b_or, b_not, b_yes, b_call, b_callK, b_blt, b_isk, a_nil, a_cons, r_nil, r_cons, o_nopart, o_part, i_rng1, i_rng2, i_zip, i_enum, i_cap, i_var, i_blt, i_call, i_tup, i_lst, i_idx, i_slc, q_add, q_sub, q_neg, q_lt, q_le, q_gt, q_ge, q_eqI, q_neI, q_isNN, q_isNT, q_isNI, q_isNL, q_isnNN, q_isnNT, q_isnNI, q_isnNL, q_andT, q_andF, q_orT, q_orF, q_not, q_toB, q_part, q_fzI, q_fzB, q_fzS, q_fzN, q_fzT, q_fzL, q_fzW, q_fzSt, q_fzSc, s_nil, s_cons, k_nx, k_rt, k_bk, k_ct, s_asg, s_asgF, s_asgT, k_asg, s_par, s_expr, s_iff, s_retN, s_raise, s_brk, s_cont, s_pass, s_frz, k_frzO, k_frzV, s_retV, k_retO, k_retV, s_ret_non, s_ret_bl, s_ret_int, s_ret_str, s_ret_con, s_ret_bin, s_ret_neg, s_ret_cmp, s_ret_chain, s_ret_and, s_ret_or, s_ret_not, s_ret_ite, s_ret_tup, s_ret_lst, s_ret_idx, s_ret_slc, s_ret_call, s_ret_callK, s_ret_blt, s_ret_isk, s_ret_comp, s_app, k_runR, k_runN, for_nil, k_forN, k_forC, k_forB, k_forR, g_nm, g_tp, o_some, noErr_ret, Yes, retK, ret_bind, err_bind, bad_bind, draw_bind, getV, slOf, slO, setAll, parT, List.length_cons, List.length_nil, List.map_cons, List.map_nil, List.getElem?_cons_zero, List.getElem?_cons_succ, List.set_cons_zero, List.set_cons_succ, List.cons_append, List.nil_append, List.replicate_succ, List.replicate_zero, optD, pairD, c, decide_true, if_true, true_and, reduceCtorEq, Bool.false_eq_true, if_false, lt, f1]
      all_goals rfl
  · have f1 := fin a1
    simp only [e_non, e_bl, e_int, e_str, e_var, e_con, e_bin, e_neg, e_cmp, e_chain, e_and, e_or, e_not, e_ite, e_tup, e_lst, e_idx, e_slc, e_call, e_callK, e_blt, e_isk, b_var, b_cmp, b_chain, b_and, b_or, b_not, b_yes, b_call, b_callK, b_blt, b_isk, a_nil, a_cons, r_nil, r_cons, o_nopart, o_part, i_rng1, i_rng2, i_zip, i_enum, i_cap, i_var, i_blt, i_call, i_tup, i_lst, i_idx, i_slc, q_add, q_sub, q_neg, q_lt, q_le, q_gt, q_ge, q_eqI, q_neI, q_isNN, q_isNT, q_isNI, q_isNL, q_isnNN, q_isnNT, q_isnNI, q_isnNL, q_andT, q_andF, q_orT, q_orF, q_not, q_toB, q_part, q_fzI, q_fzB, q_fzS, q_fzN, q_fzT, q_fzL, q_fzW, q_fzSt, q_fzSc, s_nil, s_cons, k_nx, k_rt, k_bk, k_ct, s_asg, s_asgF, s_asgT, k_asg, s_par, s_expr, s_iff, s_retN, s_raise, s_brk, s_cont, s_pass, s_frz, k_frzO, k_frzV, s_retV, k_retO, k_retV, s_ret_non, s_ret_bl, s_ret_int, s_ret_str, s_ret_con, s_ret_bin, s_ret_neg, s_ret_cmp, s_ret_chain, s_ret_and, s_ret_or, s_ret_not, s_ret_ite, s_ret_tup, s_ret_lst, s_ret_idx, s_ret_slc, s_ret_call, s_ret_callK, s_ret_blt, s_ret_isk, s_ret_comp, s_app, k_runR, k_runN, for_nil, k_forN, k_forC, k_forB, k_forR, g_nm, g_tp, o_some, noErr_ret, Yes, retK, ret_bind, err_bind, bad_bind, draw_bind, getV, slOf, slO, setAll, parT, List.length_cons, List.length_nil, List.map_cons, List.map_nil, List.getElem?_cons_zero, List.getElem?_cons_succ, List.set_cons_zero, List.set_cons_succ, List.cons_append, List.nil_append, List.replicate_succ, List.replicate_zero, c, decide_false, Bool.false_eq_true, if_false, false_and, f1]
    all_goals rfl

theorem in21 {call : Nat → List D → T D} {f : Int → Int} {d : D} {sg Q T : Int} (s1 : -100 < sg) (s2 : sg < 100) (hT : 2 ≤ T) (hT2 : T ≤ 2 * Q) (s : St) (y7 y8 y9 : Sl) :
    ∃ z7 z8 z9, forL (bindTg (.nm 7)) (ex call WH b21i) ((rng 1 T).map D.int) [.val d, .val (.int sg), .val (paidD f (2 * Q + 1)), .val (.int T), .val (.int Q), .val (optD s.1), .val (optM s.2), y7, y8, y9] =
      .ret (.nx [.val d, .val (.int sg), .val (paidD f (2 * Q + 1)), .val (.int T), .val (.int Q), .val (optD ((rng 1 T).foldl (fun s o => dueStep f sg s (T, o)) s).1), .val (optM ((rng 1 T).foldl (fun s o => dueStep f sg s (T, o)) s).2), z7, z8, z9]) := by
  obtain ⟨r2, ⟨z7, z8, z9, rfl⟩, e⟩ := for_fold (set := bindTg (.nm 7)) (body := ex call WH b21i) (g := D.int) (step := fun o s => dueStep f sg s (T, o))
    (Inv := fun (s : St) r => ∃ z7 z8 z9, r = [.val d, .val (.int sg), .val (paidD f (2 * Q + 1)), .val (.int T), .val (.int Q), .val (optD s.1), .val (optM s.2), z7, z8, z9]) (rng 1 T) (fun o ho s r hr => by
      obtain ⟨z7, z8, z9, rfl⟩ := hr
      have ho := mem_rng.mp ho
      obtain ⟨w9, e⟩ := step21 (call := call) (f := f) (d := d) (sg := sg) (Q := Q) (T := T) (o := o) s1 s2 hT hT2 ho.1 ho.2 s z7 z8 z9
      exact ⟨_, rfl, _, ⟨_, _, _, rfl⟩, e⟩) s _ ⟨y7, y8, y9, rfl⟩
  exact ⟨z7, z8, z9, e⟩
theorem out21 {call : Nat → List D → T D} {f : Int → Int} {d : D} {sg Q : Int} (s1 : -100 < sg) (s2 : sg < 100) (hQ : 1 ≤ Q) (hQ2 : Q ≤ 1000) (s : St) (y3 y7 y8 y9 : Sl) :
    ∃ z3 z7 z8 z9, forL (bindTg (.nm 3)) (ex call WH b21o) ((rng 2 (2 * Q + 1)).map D.int) [.val d, .val (.int sg), .val (paidD f (2 * Q + 1)), y3, .val (.int Q), .val (optD s.1), .val (optM s.2), y7, y8, y9] =
      .ret (.nx [.val d, .val (.int sg), .val (paidD f (2 * Q + 1)), z3, .val (.int Q), .val (optD ((LL Q).foldl (dueStep f sg) s).1), .val (optM ((LL Q).foldl (dueStep f sg) s).2), z7, z8, z9]) := by
  obtain ⟨r2, ⟨z3, z7, z8, z9, rfl⟩, e⟩ := for_fold (set := bindTg (.nm 3)) (body := ex call WH b21o) (g := D.int) (step := fun T s => (rng 1 T).foldl (fun s o => dueStep f sg s (T, o)) s)
    (Inv := fun (s : St) r => ∃ z3 z7 z8 z9, r = [.val d, .val (.int sg), .val (paidD f (2 * Q + 1)), z3, .val (.int Q), .val (optD s.1), .val (optM s.2), z7, z8, z9]) (rng 2 (2 * Q + 1)) (fun T hT s r hr => by
      obtain ⟨z3, z7, z8, z9, rfl⟩ := hr
      have hT := mem_rng.mp hT
      obtain ⟨w7, w8, w9, e⟩ := in21 (call := call) (f := f) (d := d) (sg := sg) (Q := Q) (T := T) s1 s2 hT.1 (by omega) s z7 z8 z9
      refine ⟨_, rfl, _, ⟨.val (.int T), w7, w8, w9, rfl⟩, ?_⟩
      have hr := rng_T (lo := 1) (hi := T) (by omega) (by omega) (by omega) (by omega)
      unfold b21o
      simp only [e_non, e_bl, e_int, e_str, e_var, e_con, e_bin, e_neg, e_cmp, e_chain, e_and, e_or, e_not, e_ite, e_tup, e_lst, e_idx, e_slc, e_call, e_callK, e_blt, e_isk, b_var, b_cmp, b_chain, b_and, b_or, b_not, b_yes, b_call, b_callK, b_blt, b_isk, a_nil, a_cons, r_nil, r_cons, o_nopart, o_part, i_rng1, i_rng2, i_zip, i_enum, i_cap, i_var, i_blt, i_call, i_tup, i_lst, i_idx, i_slc, q_add, q_sub, q_neg, q_lt, q_le, q_gt, q_ge, q_eqI, q_neI, q_isNN, q_isNT, q_isNI, q_isNL, q_isnNN, q_isnNT, q_isnNI, q_isnNL, q_andT, q_andF, q_orT, q_orF, q_not, q_toB, q_part, q_fzI, q_fzB, q_fzS, q_fzN, q_fzT, q_fzL, q_fzW, q_fzSt, q_fzSc, s_nil, s_cons, k_nx, k_rt, k_bk, k_ct, s_asg, s_asgF, s_asgT, k_asg, s_par, s_expr, s_iff, s_retN, s_raise, s_brk, s_cont, s_pass, s_frz, k_frzO, k_frzV, s_retV, k_retO, k_retV, s_ret_non, s_ret_bl, s_ret_int, s_ret_str, s_ret_con, s_ret_bin, s_ret_neg, s_ret_cmp, s_ret_chain, s_ret_and, s_ret_or, s_ret_not, s_ret_ite, s_ret_tup, s_ret_lst, s_ret_idx, s_ret_slc, s_ret_call, s_ret_callK, s_ret_blt, s_ret_isk, s_ret_comp, s_app, k_runR, k_runN, for_nil, k_forN, k_forC, k_forB, k_forR, g_nm, g_tp, o_some, noErr_ret, Yes, retK, ret_bind, err_bind, bad_bind, draw_bind, getV, slOf, slO, setAll, parT, List.length_cons, List.length_nil, List.map_cons, List.map_nil, List.getElem?_cons_zero, List.getElem?_cons_succ, List.set_cons_zero, List.set_cons_succ, List.cons_append, List.nil_append, List.replicate_succ, List.replicate_zero, s_for, hr, e]) s _ ⟨y3, y7, y8, y9, rfl⟩
  refine ⟨z3, z7, z8, z9, ?_⟩
  rw [e]
  have e2 : (rng 2 (2 * Q + 1)).foldl (fun s T => (rng 1 T).foldl (fun s o => dueStep f sg s (T, o)) s) s = (LL Q).foldl (dueStep f sg) s := by
    unfold LL
    rw [List.foldl_flatMap]
    congr 1
    funext s T
    rw [List.foldl_map]
  rw [e2]
theorem f21 {n : Nat} {l : List Br} {k : Br} (z : Sz l k) {sg : Int} (s1 : -100 < sg) (s2 : sg < 100) :
    callF tab WH (n + 2) 21 [scD (l ++ [k]), .int sg] = .ret (.tup [optD ((LL (k.s + 2 * k.r)).foldl (dueStep (pay (l ++ [k])) sg) (none, none)).1, optM ((LL (k.s + 2 * k.r)).foldl (dueStep (pay (l ++ [k])) sg) (none, none)).2]) := by
  show runD (callF tab WH (n + 1)) WH d21 _ = _
  rw [run_eq rfl]
  obtain ⟨z1, z2, z3, z4, z5⟩ := id z
  have hl : idxT (scD (l ++ [k])) (.int (-1)) = .ret (brD k) := by
    show ofO (L2.atI ((l ++ [k]).map brD) (-1)) = _
    rw [idx_last, List.map_append, List.map_cons, List.map_nil, List.getLast?_append]
    rfl
  have q1 := q_mulL (i := 2) (j := k.r) (by decide) (by decide)
  have q2 := q_mulL (i := 2) (j := k.s + 2 * k.r) (by decide) (by decide)
  have hr0 : rng1T (.int (2 * (k.s + 2 * k.r) + 1)) = .ret ((rng 0 (2 * (k.s + 2 * k.r) + 1)).map D.int) := rng_T (lo := 0) (hi := 2 * (k.s + 2 * k.r) + 1) (by omega) (by omega) (by omega) (by omega)
  have hr := rng_T (lo := 2) (hi := 2 * (k.s + 2 * k.r) + 1) (by omega) (by omega) (by omega) (by omega)
  have fz1 : fz (scD (l ++ [k])) = .ret (scD (l ++ [k])) := rfl
  have hc : compL (compF (.nm 8) [8] (evs (callF tab WH (n + 1)) .yes).B (evs (callF tab WH (n + 1)) (.call 16 (.cons (.var 0) (.cons (.var 8) .nil)))).E [.val (scD (l ++ [k])), .val (.int sg), .un, .un, .val (.int (k.s + 2 * k.r)), .val .non, .val .non, .un, .un, .un]) ((rng 0 (2 * (k.s + 2 * k.r) + 1)).map D.int) = .ret ((rng 0 (2 * (k.s + 2 * k.r) + 1)).map fun x => .int (pay (l ++ [k]) x)) := by
    refine comp_mapM fun x hx => ?_
    have e16 := f16 (n := n) (l := l ++ [k]) (a := x) z1
    simp only [compF_eq, wipeE, e_non, e_bl, e_int, e_str, e_var, e_con, e_bin, e_neg, e_cmp, e_chain, e_and, e_or, e_not, e_ite, e_tup, e_lst, e_idx, e_slc, e_call, e_callK, e_blt, e_isk, b_var, b_cmp, b_chain, b_and, b_or, b_not, b_yes, b_call, b_callK, b_blt, b_isk, a_nil, a_cons, r_nil, r_cons, o_nopart, o_part, i_rng1, i_rng2, i_zip, i_enum, i_cap, i_var, i_blt, i_call, i_tup, i_lst, i_idx, i_slc, q_add, q_sub, q_neg, q_lt, q_le, q_gt, q_ge, q_eqI, q_neI, q_isNN, q_isNT, q_isNI, q_isNL, q_isnNN, q_isnNT, q_isnNI, q_isnNL, q_andT, q_andF, q_orT, q_orF, q_not, q_toB, q_part, q_fzI, q_fzB, q_fzS, q_fzN, q_fzT, q_fzL, q_fzW, q_fzSt, q_fzSc, s_nil, s_cons, k_nx, k_rt, k_bk, k_ct, s_asg, s_asgF, s_asgT, k_asg, s_par, s_expr, s_iff, s_retN, s_raise, s_brk, s_cont, s_pass, s_frz, k_frzO, k_frzV, s_retV, k_retO, k_retV, s_ret_non, s_ret_bl, s_ret_int, s_ret_str, s_ret_con, s_ret_bin, s_ret_neg, s_ret_cmp, s_ret_chain, s_ret_and, s_ret_or, s_ret_not, s_ret_ite, s_ret_tup, s_ret_lst, s_ret_idx, s_ret_slc, s_ret_call, s_ret_callK, s_ret_blt, s_ret_isk, s_ret_comp, s_app, k_runR, k_runN, for_nil, k_forN, k_forC, k_forB, k_forR, g_nm, g_tp, o_some, noErr_ret, Yes, retK, ret_bind, err_bind, bad_bind, draw_bind, getV, slOf, slO, setAll, parT, List.length_cons, List.length_nil, List.map_cons, List.map_nil, List.getElem?_cons_zero, List.getElem?_cons_succ, List.set_cons_zero, List.set_cons_succ, List.cons_append, List.nil_append, List.replicate_succ, List.replicate_zero, fz1, e16, if_true]
  obtain ⟨w3, w7, w8, w9, e⟩ := out21 (call := callF tab WH (n + 1)) (f := pay (l ++ [k])) (d := scD (l ++ [k])) (sg := sg) (Q := k.s + 2 * k.r) s1 s2 (by omega) (by omega) (none, none) .un .un .un .un
  unfold b21o b21i paidD at e
  have on : optD none = .non := rfl
  have om : optM none = .non := rfl
  rw [on, om] at e
  have lt : ∀ a b : D, lenT [a, b] (.tup [a, b]) = .ret (.tup [a, b]) := fun _ _ => rfl
  have fo : ∀ o, fz (optD o) = .ret (optD o) := fun o => by cases o <;> rfl
  have fm : ∀ o, fz (optM o) = .ret (optM o) := fun o => by cases o <;> rfl
  simp only [d21, startE]
  simp only [e_non, e_bl, e_int, e_str, e_var, e_con, e_bin, e_neg, e_cmp, e_chain, e_and, e_or, e_not, e_ite, e_tup, e_lst, e_idx, e_slc, e_call, e_callK, e_blt, e_isk, b_var, b_cmp, b_chain, b_and, b_or, b_not, b_yes, b_call, b_callK, b_blt, b_isk, a_nil, a_cons, r_nil, r_cons, o_nopart, o_part, i_rng1, i_rng2, i_zip, i_enum, i_cap, i_var, i_blt, i_call, i_tup, i_lst, i_idx, i_slc, q_add, q_sub, q_neg, q_lt, q_le, q_gt, q_ge, q_eqI, q_neI, q_isNN, q_isNT, q_isNI, q_isNL, q_isnNN, q_isnNT, q_isnNI, q_isnNL, q_andT, q_andF, q_orT, q_orF, q_not, q_toB, q_part, q_fzI, q_fzB, q_fzS, q_fzN, q_fzT, q_fzL, q_fzW, q_fzSt, q_fzSc, s_nil, s_cons, k_nx, k_rt, k_bk, k_ct, s_asg, s_asgF, s_asgT, k_asg, s_par, s_expr, s_iff, s_retN, s_raise, s_brk, s_cont, s_pass, s_frz, k_frzO, k_frzV, s_retV, k_retO, k_retV, s_ret_non, s_ret_bl, s_ret_int, s_ret_str, s_ret_con, s_ret_bin, s_ret_neg, s_ret_cmp, s_ret_chain, s_ret_and, s_ret_or, s_ret_not, s_ret_ite, s_ret_tup, s_ret_lst, s_ret_idx, s_ret_slc, s_ret_call, s_ret_callK, s_ret_blt, s_ret_isk, s_ret_comp, s_app, k_runR, k_runN, for_nil, k_forN, k_forC, k_forB, k_forR, g_nm, g_tp, o_some, noErr_ret, Yes, retK, ret_bind, err_bind, bad_bind, draw_bind, getV, slOf, slO, setAll, parT, List.length_cons, List.length_nil, List.map_cons, List.map_nil, List.getElem?_cons_zero, List.getElem?_cons_succ, List.set_cons_zero, List.set_cons_succ, List.cons_append, List.nil_append, List.replicate_succ, List.replicate_zero, s_for, e_comp, hl, brD, ix4, q1, q2, hr0, hr, hc, noErr_ret, e, fo, fm, lt]
end LW
end
section
set_option maxHeartbeats 1000000
namespace LW
open PySem PV
theorem cut_1 {xs : List D} : cutD xs (some 1) none = xs.drop 1 := by
  unfold cutD
  cases xs with
  | nil => simp [HT.sIx]
  | cons x xs =>
    simp [HT.sIx]
theorem cut_2 {a b : D} {xs : List D} : cutD (a :: b :: xs) none (some 2) = [a, b] := by
  unfold cutD
  simp [HT.sIx]
theorem all_true {α : Type} {l : List α} : bltT .all [.new (l.map fun _ => D.bl true)] = .ret (.bl true) := by
  have e : blsD (l.map fun _ => D.bl true) = some (l.map fun _ => true) := by
    induction l with
    | nil => rfl
    | cons x l ih =>
      show (blsD (l.map fun _ => D.bl true)).map (true :: ·) = _
      rw [ih]
      rfl
  show (match seqB (.new (l.map fun _ => D.bl true)) with | some ns => T.ret (D.bl (ns.all id)) | none => T.bad) = _
  rw [show seqB (.new (l.map fun _ => D.bl true)) = some (l.map fun _ => true) from e]
  show T.ret (D.bl ((l.map fun _ => true).all id)) = _
  rw [List.all_map]
  congr 2
  rw [List.all_eq_true]
  exact fun _ _ => rfl
theorem f2 {n : Nat} {ns : List Int} (h : ns.Pairwise (· < ·)) : callF tab WH (n + 1) 2 [.lst (ns.map D.int)] = .ret (.bl true) := by
  show runD (callF tab WH n) WH d2 _ = _
  rw [run_eq rfl]
  have hz : ofO (zipD (.lst (ns.map D.int)) (.new (cutD (ns.map D.int) (some 1) none))) = .ret ((ns.zip (ns.drop 1)).map fun p => D.tup [.int p.1, .int p.2]) := by
    rw [cut_1, ← List.map_drop]
    show ofO (some (((ns.map D.int).zip ((ns.drop 1).map D.int)).map fun p => D.tup [p.1, p.2])) = _
    rw [List.zip_map, List.map_map]
    rfl
  have hs : ∀ xs : List D, slcT (.lst xs) (some 1) none = .ret (.new (cutD xs (some 1) none)) := fun _ => rfl
  have hp : ∀ p ∈ ns.zip (ns.drop 1), p.1 < p.2 := by
    intro p hp
    obtain ⟨i, hi, e⟩ := List.getElem_of_mem hp
    rw [List.length_zip, List.length_drop] at hi
    rw [List.getElem_zip, List.getElem_drop] at e
    rw [← e]
    exact List.pairwise_iff_getElem.mp h i (1 + i) (by omega) (by omega) (by omega)
  have hc : compL (compF (.tp [1, 2]) [1, 2] (evs (callF tab WH n) .yes).B (evs (callF tab WH n) (.cmp .lt (.var 1) (.var 2))).E [.val (.lst (ns.map D.int)), .un, .un]) ((ns.zip (ns.drop 1)).map fun p => D.tup [.int p.1, .int p.2]) = .ret ((ns.zip (ns.drop 1)).map fun _ => .bl true) := by
    refine comp_mapM fun p hp' => ?_
    have := hp p hp'
    simp only [compF_eq, wipeE, e_non, e_bl, e_int, e_str, e_var, e_con, e_bin, e_neg, e_cmp, e_chain, e_and, e_or, e_not, e_ite, e_tup, e_lst, e_idx, e_slc, e_call, e_callK, e_blt, e_isk, b_var, b_cmp, b_chain, b_and, b_or, b_not, b_yes, b_call, b_callK, b_blt, b_isk, a_nil, a_cons, r_nil, r_cons, o_nopart, o_part, i_rng1, i_rng2, i_zip, i_enum, i_cap, i_var, i_blt, i_call, i_tup, i_lst, i_idx, i_slc, q_add, q_sub, q_neg, q_lt, q_le, q_gt, q_ge, q_eqI, q_neI, q_isNN, q_isNT, q_isNI, q_isNL, q_isnNN, q_isnNT, q_isnNI, q_isnNL, q_andT, q_andF, q_orT, q_orF, q_not, q_toB, q_part, q_fzI, q_fzB, q_fzS, q_fzN, q_fzT, q_fzL, q_fzW, q_fzSt, q_fzSc, s_nil, s_cons, k_nx, k_rt, k_bk, k_ct, s_asg, s_asgF, s_asgT, k_asg, s_par, s_expr, s_iff, s_retN, s_raise, s_brk, s_cont, s_pass, s_frz, k_frzO, k_frzV, s_retV, k_retO, k_retV, s_ret_non, s_ret_bl, s_ret_int, s_ret_str, s_ret_con, s_ret_bin, s_ret_neg, s_ret_cmp, s_ret_chain, s_ret_and, s_ret_or, s_ret_not, s_ret_ite, s_ret_tup, s_ret_lst, s_ret_idx, s_ret_slc, s_ret_call, s_ret_callK, s_ret_blt, s_ret_isk, s_ret_comp, s_app, k_runR, k_runN, for_nil, k_forN, k_forC, k_forB, k_forR, g_nm, g_tp, o_some, noErr_ret, Yes, retK, ret_bind, err_bind, bad_bind, draw_bind, getV, slOf, slO, setAll, parT, List.length_cons, List.length_nil, List.map_cons, List.map_nil, List.getElem?_cons_zero, List.getElem?_cons_succ, List.set_cons_zero, List.set_cons_succ, List.cons_append, List.nil_append, List.replicate_succ, List.replicate_zero, this, decide_true, if_true]
  simp only [d2, startE]
  simp only [e_non, e_bl, e_int, e_str, e_var, e_con, e_bin, e_neg, e_cmp, e_chain, e_and, e_or, e_not, e_ite, e_tup, e_lst, e_idx, e_slc, e_call, e_callK, e_blt, e_isk, b_var, b_cmp, b_chain, b_and, b_or, b_not, b_yes, b_call, b_callK, b_blt, b_isk, a_nil, a_cons, r_nil, r_cons, o_nopart, o_part, i_rng1, i_rng2, i_zip, i_enum, i_cap, i_var, i_blt, i_call, i_tup, i_lst, i_idx, i_slc, q_add, q_sub, q_neg, q_lt, q_le, q_gt, q_ge, q_eqI, q_neI, q_isNN, q_isNT, q_isNI, q_isNL, q_isnNN, q_isnNT, q_isnNI, q_isnNL, q_andT, q_andF, q_orT, q_orF, q_not, q_toB, q_part, q_fzI, q_fzB, q_fzS, q_fzN, q_fzT, q_fzL, q_fzW, q_fzSt, q_fzSc, s_nil, s_cons, k_nx, k_rt, k_bk, k_ct, s_asg, s_asgF, s_asgT, k_asg, s_par, s_expr, s_iff, s_retN, s_raise, s_brk, s_cont, s_pass, s_frz, k_frzO, k_frzV, s_retV, k_retO, k_retV, s_ret_non, s_ret_bl, s_ret_int, s_ret_str, s_ret_con, s_ret_bin, s_ret_neg, s_ret_cmp, s_ret_chain, s_ret_and, s_ret_or, s_ret_not, s_ret_ite, s_ret_tup, s_ret_lst, s_ret_idx, s_ret_slc, s_ret_call, s_ret_callK, s_ret_blt, s_ret_isk, s_ret_comp, s_app, k_runR, k_runN, for_nil, k_forN, k_forC, k_forB, k_forR, g_nm, g_tp, o_some, noErr_ret, Yes, retK, ret_bind, err_bind, bad_bind, draw_bind, getV, slOf, slO, setAll, parT, List.length_cons, List.length_nil, List.map_cons, List.map_nil, List.getElem?_cons_zero, List.getElem?_cons_succ, List.set_cons_zero, List.set_cons_succ, List.cons_append, List.nil_append, List.replicate_succ, List.replicate_zero, e_comp, hs, hz, hc, noErr_ret, all_true]
theorem f3 {n : Nat} {k : Br} (v : VB k) : callF tab WH (n + 2) 3 [brD k] = .ret (.bl true) := by
  show runD (callF tab WH (n + 1)) WH d3 _ = _
  rw [run_eq rfl]
  obtain ⟨v1, v2, v3, v4, v5, v6, v7, v8⟩ := v
  have k1 : bltT .istup [brD k] = .ret (.bl true) := rfl
  have k2 : bltT .len [brD k] = .ret (.int 4) := rfl
  have fr : frozen (brD k) = some [.int k.s, .int k.b, .int k.p, .int k.r] := rfl
  have w1 := whole_int n k.s (by omega) (by omega)
  have w2 := whole_int n k.b (by omega) (by omega)
  have w3 := whole_int n k.p (by omega) (by omega)
  have w4 := whole_int n k.r (by omega) (by omega)
  have q1 := q_mulL (i := 3) (j := k.r) (by decide) (by decide)
  have hc : compL (compF (.nm 5) [5] (evs (callF tab WH (n + 1)) .yes).B (evs (callF tab WH (n + 1)) (.call 1 (.cons (.var 5) .nil))).E [.val (brD k), .un, .un, .un, .un, .un]) [.int k.s, .int k.b, .int k.p, .int k.r] = .ret ([k.s, k.b, k.p, k.r].map fun _ => .bl true) := by
    refine comp_mapM (g := D.int) (l := [k.s, k.b, k.p, k.r]) fun x hx => ?_
    have hw : callF tab WH (n + 1) 1 [.int x] = .ret (.bl true) := by
      simp only [List.mem_cons, List.not_mem_nil, or_false] at hx
      rcases hx with rfl | rfl | rfl | rfl <;> assumption
    simp only [compF_eq, wipeE, e_non, e_bl, e_int, e_str, e_var, e_con, e_bin, e_neg, e_cmp, e_chain, e_and, e_or, e_not, e_ite, e_tup, e_lst, e_idx, e_slc, e_call, e_callK, e_blt, e_isk, b_var, b_cmp, b_chain, b_and, b_or, b_not, b_yes, b_call, b_callK, b_blt, b_isk, a_nil, a_cons, r_nil, r_cons, o_nopart, o_part, i_rng1, i_rng2, i_zip, i_enum, i_cap, i_var, i_blt, i_call, i_tup, i_lst, i_idx, i_slc, q_add, q_sub, q_neg, q_lt, q_le, q_gt, q_ge, q_eqI, q_neI, q_isNN, q_isNT, q_isNI, q_isNL, q_isnNN, q_isnNT, q_isnNI, q_isnNL, q_andT, q_andF, q_orT, q_orF, q_not, q_toB, q_part, q_fzI, q_fzB, q_fzS, q_fzN, q_fzT, q_fzL, q_fzW, q_fzSt, q_fzSc, s_nil, s_cons, k_nx, k_rt, k_bk, k_ct, s_asg, s_asgF, s_asgT, k_asg, s_par, s_expr, s_iff, s_retN, s_raise, s_brk, s_cont, s_pass, s_frz, k_frzO, k_frzV, s_retV, k_retO, k_retV, s_ret_non, s_ret_bl, s_ret_int, s_ret_str, s_ret_con, s_ret_bin, s_ret_neg, s_ret_cmp, s_ret_chain, s_ret_and, s_ret_or, s_ret_not, s_ret_ite, s_ret_tup, s_ret_lst, s_ret_idx, s_ret_slc, s_ret_call, s_ret_callK, s_ret_blt, s_ret_isk, s_ret_comp, s_app, k_runR, k_runN, for_nil, k_forN, k_forC, k_forB, k_forR, g_nm, g_tp, o_some, noErr_ret, Yes, retK, ret_bind, err_bind, bad_bind, draw_bind, getV, slOf, slO, setAll, parT, List.length_cons, List.length_nil, List.map_cons, List.map_nil, List.getElem?_cons_zero, List.getElem?_cons_succ, List.set_cons_zero, List.set_cons_succ, List.cons_append, List.nil_append, List.replicate_succ, List.replicate_zero, hw, if_true]
  have ha := all_true (l := [k.s, k.b, k.p, k.r])
  simp only [brD, List.map_cons, List.map_nil] at k1 k2 fr hc ha
  simp only [d3, startE]
  simp only [e_non, e_bl, e_int, e_str, e_var, e_con, e_bin, e_neg, e_cmp, e_chain, e_and, e_or, e_not, e_ite, e_tup, e_lst, e_idx, e_slc, e_call, e_callK, e_blt, e_isk, b_var, b_cmp, b_chain, b_and, b_or, b_not, b_yes, b_call, b_callK, b_blt, b_isk, a_nil, a_cons, r_nil, r_cons, o_nopart, o_part, i_rng1, i_rng2, i_zip, i_enum, i_cap, i_var, i_blt, i_call, i_tup, i_lst, i_idx, i_slc, q_add, q_sub, q_neg, q_lt, q_le, q_gt, q_ge, q_eqI, q_neI, q_isNN, q_isNT, q_isNI, q_isNL, q_isnNN, q_isnNT, q_isnNI, q_isnNL, q_andT, q_andF, q_orT, q_orF, q_not, q_toB, q_part, q_fzI, q_fzB, q_fzS, q_fzN, q_fzT, q_fzL, q_fzW, q_fzSt, q_fzSc, s_nil, s_cons, k_nx, k_rt, k_bk, k_ct, s_asg, s_asgF, s_asgT, k_asg, s_par, s_expr, s_iff, s_retN, s_raise, s_brk, s_cont, s_pass, s_frz, k_frzO, k_frzV, s_retV, k_retO, k_retV, s_ret_non, s_ret_bl, s_ret_int, s_ret_str, s_ret_con, s_ret_bin, s_ret_neg, s_ret_cmp, s_ret_chain, s_ret_and, s_ret_or, s_ret_not, s_ret_ite, s_ret_tup, s_ret_lst, s_ret_idx, s_ret_slc, s_ret_call, s_ret_callK, s_ret_blt, s_ret_isk, s_ret_comp, s_app, k_runR, k_runN, for_nil, k_forN, k_forC, k_forB, k_forR, g_nm, g_tp, o_some, noErr_ret, Yes, retK, ret_bind, err_bind, bad_bind, draw_bind, getV, slOf, slO, setAll, parT, List.length_cons, List.length_nil, List.map_cons, List.map_nil, List.getElem?_cons_zero, List.getElem?_cons_succ, List.set_cons_zero, List.set_cons_succ, List.cons_append, List.nil_append, List.replicate_succ, List.replicate_zero, e_comp, k1, k2, fr, hc, noErr_ret, ha, Bool.not_true, Bool.false_eq_true, if_false, brD, decide_true, q1, v1, v2, v3, v4, v5, v6, v7, v8, if_true]

theorem f4 {n : Nat} {l : List Br} (v : VS l) : callF tab WH (n + 3) 4 [scD l] = .ret (.bl true) := by
  show runD (callF tab WH (n + 2)) WH d4 _ = _
  rw [run_eq rfl]
  obtain ⟨b0, t, e0, hs0, hb0⟩ := v.hd
  have hl0 : 1 ≤ l.length := by rw [e0]; exact Nat.succ_le_succ (Nat.zero_le _)
  have k1 : bltT .istup [scD l] = .ret (.bl true) := rfl
  have k2 : bltT .len [scD l] = .ret (.int l.length) := by
    show T.ret (D.int ((l.map brD).length : Nat)) = _
    rw [List.length_map]
  have c1 : (1 : Int) ≤ l.length := by omega
  have c2 : (l.length : Int) ≤ 6 := by have := v.len; omega
  have fr : frozen (scD l) = some (l.map brD) := rfl
  have hc1 : compL (compF (.nm 1) [1] (evs (callF tab WH (n + 2)) .yes).B (evs (callF tab WH (n + 2)) (.call 3 (.cons (.var 1) .nil))).E [.val (scD l), .un]) (l.map brD) = .ret (l.map fun _ => .bl true) := by
    refine comp_mapM fun k hk => ?_
    have h3 := f3 (n := n) (v.vb k hk)
    have fz1 : fz (brD k) = .ret (brD k) := rfl
    simp only [compF_eq, wipeE, e_non, e_bl, e_int, e_str, e_var, e_con, e_bin, e_neg, e_cmp, e_chain, e_and, e_or, e_not, e_ite, e_tup, e_lst, e_idx, e_slc, e_call, e_callK, e_blt, e_isk, b_var, b_cmp, b_chain, b_and, b_or, b_not, b_yes, b_call, b_callK, b_blt, b_isk, a_nil, a_cons, r_nil, r_cons, o_nopart, o_part, i_rng1, i_rng2, i_zip, i_enum, i_cap, i_var, i_blt, i_call, i_tup, i_lst, i_idx, i_slc, q_add, q_sub, q_neg, q_lt, q_le, q_gt, q_ge, q_eqI, q_neI, q_isNN, q_isNT, q_isNI, q_isNL, q_isnNN, q_isnNT, q_isnNI, q_isnNL, q_andT, q_andF, q_orT, q_orF, q_not, q_toB, q_part, q_fzI, q_fzB, q_fzS, q_fzN, q_fzT, q_fzL, q_fzW, q_fzSt, q_fzSc, s_nil, s_cons, k_nx, k_rt, k_bk, k_ct, s_asg, s_asgF, s_asgT, k_asg, s_par, s_expr, s_iff, s_retN, s_raise, s_brk, s_cont, s_pass, s_frz, k_frzO, k_frzV, s_retV, k_retO, k_retV, s_ret_non, s_ret_bl, s_ret_int, s_ret_str, s_ret_con, s_ret_bin, s_ret_neg, s_ret_cmp, s_ret_chain, s_ret_and, s_ret_or, s_ret_not, s_ret_ite, s_ret_tup, s_ret_lst, s_ret_idx, s_ret_slc, s_ret_call, s_ret_callK, s_ret_blt, s_ret_isk, s_ret_comp, s_app, k_runR, k_runN, for_nil, k_forN, k_forC, k_forB, k_forR, g_nm, g_tp, o_some, noErr_ret, Yes, retK, ret_bind, err_bind, bad_bind, draw_bind, getV, slOf, slO, setAll, parT, List.length_cons, List.length_nil, List.map_cons, List.map_nil, List.getElem?_cons_zero, List.getElem?_cons_succ, List.set_cons_zero, List.set_cons_succ, List.cons_append, List.nil_append, List.replicate_succ, List.replicate_zero, fz1, h3, if_true]
  have hc2 : compL (compF (.nm 1) [1] (evs (callF tab WH (n + 2)) .yes).B (evs (callF tab WH (n + 2)) (.idx (.var 1) (.int 0))).E [.val (scD l), .un]) (l.map brD) = .ret ((l.map (·.s)).map D.int) := by
    rw [List.map_map]
    refine comp_mapM fun k hk => ?_
    simp only [compF_eq, wipeE, e_non, e_bl, e_int, e_str, e_var, e_con, e_bin, e_neg, e_cmp, e_chain, e_and, e_or, e_not, e_ite, e_tup, e_lst, e_idx, e_slc, e_call, e_callK, e_blt, e_isk, b_var, b_cmp, b_chain, b_and, b_or, b_not, b_yes, b_call, b_callK, b_blt, b_isk, a_nil, a_cons, r_nil, r_cons, o_nopart, o_part, i_rng1, i_rng2, i_zip, i_enum, i_cap, i_var, i_blt, i_call, i_tup, i_lst, i_idx, i_slc, q_add, q_sub, q_neg, q_lt, q_le, q_gt, q_ge, q_eqI, q_neI, q_isNN, q_isNT, q_isNI, q_isNL, q_isnNN, q_isnNT, q_isnNI, q_isnNL, q_andT, q_andF, q_orT, q_orF, q_not, q_toB, q_part, q_fzI, q_fzB, q_fzS, q_fzN, q_fzT, q_fzL, q_fzW, q_fzSt, q_fzSc, s_nil, s_cons, k_nx, k_rt, k_bk, k_ct, s_asg, s_asgF, s_asgT, k_asg, s_par, s_expr, s_iff, s_retN, s_raise, s_brk, s_cont, s_pass, s_frz, k_frzO, k_frzV, s_retV, k_retO, k_retV, s_ret_non, s_ret_bl, s_ret_int, s_ret_str, s_ret_con, s_ret_bin, s_ret_neg, s_ret_cmp, s_ret_chain, s_ret_and, s_ret_or, s_ret_not, s_ret_ite, s_ret_tup, s_ret_lst, s_ret_idx, s_ret_slc, s_ret_call, s_ret_callK, s_ret_blt, s_ret_isk, s_ret_comp, s_app, k_runR, k_runN, for_nil, k_forN, k_forC, k_forB, k_forR, g_nm, g_tp, o_some, noErr_ret, Yes, retK, ret_bind, err_bind, bad_bind, draw_bind, getV, slOf, slO, setAll, parT, List.length_cons, List.length_nil, List.map_cons, List.map_nil, List.getElem?_cons_zero, List.getElem?_cons_succ, List.set_cons_zero, List.set_cons_succ, List.cons_append, List.nil_append, List.replicate_succ, List.replicate_zero, brD, ix4, if_true]
    rfl
  have h2 := f2 (n := n + 1) (ns := l.map (·.s)) (by rw [List.pairwise_map]; exact v.inc)
  have ha := all_true (l := l)
  have i0 : idxT (scD l) (.int 0) = .ret (brD b0) := by
    show ofO (L2.atI (l.map brD) 0) = _
    rw [show (0 : Int) = ((0 : Nat) : Int) from rfl, idx_nat (i := 0) (x := brD b0) (by rw [e0]; rfl)]
    rfl
  have sl : slcT (brD b0) none (some 2) = .ret (.tup [.int 0, .int 0]) := by
    show T.ret (D.tup (cutD [.int b0.s, .int b0.b, .int b0.p, .int b0.r] none (some 2))) = _
    rw [cut_2, hs0, hb0]
  have lt : lenT [.int 0, .int 0] (.tup [.int 0, .int 0]) = .ret (.tup [.int 0, .int 0]) := rfl
  have eq0 : cmpT .eq (.tup [.int 0, .int 0]) (.tup [.int 0, .int 0]) = .ret true := by
    show deq _ _ = _
    unfold deq
    simp [okPy, D.toPy, D.toPys, SeqAt.shaped, PyData.canLay0, PyData.canLayAll0, PyData.depth, PyData.depthAll, PyData.eqv, PyData.eqvAll]
  simp only [d4, startE]
  simp only [e_non, e_bl, e_int, e_str, e_var, e_con, e_bin, e_neg, e_cmp, e_chain, e_and, e_or, e_not, e_ite, e_tup, e_lst, e_idx, e_slc, e_call, e_callK, e_blt, e_isk, b_var, b_cmp, b_chain, b_and, b_or, b_not, b_yes, b_call, b_callK, b_blt, b_isk, a_nil, a_cons, r_nil, r_cons, o_nopart, o_part, i_rng1, i_rng2, i_zip, i_enum, i_cap, i_var, i_blt, i_call, i_tup, i_lst, i_idx, i_slc, q_add, q_sub, q_neg, q_lt, q_le, q_gt, q_ge, q_eqI, q_neI, q_isNN, q_isNT, q_isNI, q_isNL, q_isnNN, q_isnNT, q_isnNI, q_isnNL, q_andT, q_andF, q_orT, q_orF, q_not, q_toB, q_part, q_fzI, q_fzB, q_fzS, q_fzN, q_fzT, q_fzL, q_fzW, q_fzSt, q_fzSc, s_nil, s_cons, k_nx, k_rt, k_bk, k_ct, s_asg, s_asgF, s_asgT, k_asg, s_par, s_expr, s_iff, s_retN, s_raise, s_brk, s_cont, s_pass, s_frz, k_frzO, k_frzV, s_retV, k_retO, k_retV, s_ret_non, s_ret_bl, s_ret_int, s_ret_str, s_ret_con, s_ret_bin, s_ret_neg, s_ret_cmp, s_ret_chain, s_ret_and, s_ret_or, s_ret_not, s_ret_ite, s_ret_tup, s_ret_lst, s_ret_idx, s_ret_slc, s_ret_call, s_ret_callK, s_ret_blt, s_ret_isk, s_ret_comp, s_app, k_runR, k_runN, for_nil, k_forN, k_forC, k_forB, k_forR, g_nm, g_tp, o_some, noErr_ret, Yes, retK, ret_bind, err_bind, bad_bind, draw_bind, getV, slOf, slO, setAll, parT, List.length_cons, List.length_nil, List.map_cons, List.map_nil, List.getElem?_cons_zero, List.getElem?_cons_succ, List.set_cons_zero, List.set_cons_succ, List.cons_append, List.nil_append, List.replicate_succ, List.replicate_zero, e_comp, k1, k2, fr, hc1, hc2, noErr_ret, ha, h2, i0, sl, lt, eq0, c1, c2, decide_true, Bool.not_true, Bool.false_eq_true, if_false, if_true]
theorem f5 {n : Nat} {l : List Br} (v : VS l) : callF tab WH (n + 4) 5 [scD l] = .ret .non := by
  show runD (callF tab WH (n + 3)) WH d5 _ = _
  rw [run_eq rfl]
  have h4 := f4 (n := n) v
  have fz1 : fz (scD l) = .ret (scD l) := rfl
  simp only [d5, startE]
  simp only [e_non, e_bl, e_int, e_str, e_var, e_con, e_bin, e_neg, e_cmp, e_chain, e_and, e_or, e_not, e_ite, e_tup, e_lst, e_idx, e_slc, e_call, e_callK, e_blt, e_isk, b_var, b_cmp, b_chain, b_and, b_or, b_not, b_yes, b_call, b_callK, b_blt, b_isk, a_nil, a_cons, r_nil, r_cons, o_nopart, o_part, i_rng1, i_rng2, i_zip, i_enum, i_cap, i_var, i_blt, i_call, i_tup, i_lst, i_idx, i_slc, q_add, q_sub, q_neg, q_lt, q_le, q_gt, q_ge, q_eqI, q_neI, q_isNN, q_isNT, q_isNI, q_isNL, q_isnNN, q_isnNT, q_isnNI, q_isnNL, q_andT, q_andF, q_orT, q_orF, q_not, q_toB, q_part, q_fzI, q_fzB, q_fzS, q_fzN, q_fzT, q_fzL, q_fzW, q_fzSt, q_fzSc, s_nil, s_cons, k_nx, k_rt, k_bk, k_ct, s_asg, s_asgF, s_asgT, k_asg, s_par, s_expr, s_iff, s_retN, s_raise, s_brk, s_cont, s_pass, s_frz, k_frzO, k_frzV, s_retV, k_retO, k_retV, s_ret_non, s_ret_bl, s_ret_int, s_ret_str, s_ret_con, s_ret_bin, s_ret_neg, s_ret_cmp, s_ret_chain, s_ret_and, s_ret_or, s_ret_not, s_ret_ite, s_ret_tup, s_ret_lst, s_ret_idx, s_ret_slc, s_ret_call, s_ret_callK, s_ret_blt, s_ret_isk, s_ret_comp, s_app, k_runR, k_runN, for_nil, k_forN, k_forC, k_forB, k_forR, g_nm, g_tp, o_some, noErr_ret, Yes, retK, ret_bind, err_bind, bad_bind, draw_bind, getV, slOf, slO, setAll, parT, List.length_cons, List.length_nil, List.map_cons, List.map_nil, List.getElem?_cons_zero, List.getElem?_cons_succ, List.set_cons_zero, List.set_cons_succ, List.cons_append, List.nil_append, List.replicate_succ, List.replicate_zero, fz1, h4, Bool.not_true, Bool.false_eq_true, if_false]
theorem VS.sz {l : List Br} {k : Br} (v : VS (l ++ [k])) : Sz l k := by
  have hk := v.vb k (by simp)
  obtain ⟨b0, t, e0, hs0, hb0⟩ := v.hd
  exact ⟨fun x hx => (v.vb x hx).vr, ⟨b0, by rw [e0]; exact List.mem_cons_self, hs0⟩, hk.s0, hk.r0, by have := hk.s1; have := hk.r1; omega⟩
theorem f11 {n : Nat} {l : List Br} {k : Br} (v : VS (l ++ [k])) : callF tab WH (n + 5) 11 [scD (l ++ [k])] = .ret (optD ((LP (k.s + k.r)).find? (hit (pay (l ++ [k])) 1 1))) := by
  show runD (callF tab WH (n + 4)) WH d11 _ = _
  rw [run_eq rfl]
  have h5 := f5 (n := n) v
  have h9 := f9 (n := n + 1) v.sz (sg := 1) (t := 1) (by decide) (by decide)
  have fz1 : fz (scD (l ++ [k])) = .ret (scD (l ++ [k])) := rfl
  simp only [d11, startE]
  simp only [e_non, e_bl, e_int, e_str, e_var, e_con, e_bin, e_neg, e_cmp, e_chain, e_and, e_or, e_not, e_ite, e_tup, e_lst, e_idx, e_slc, e_call, e_callK, e_blt, e_isk, b_var, b_cmp, b_chain, b_and, b_or, b_not, b_yes, b_call, b_callK, b_blt, b_isk, a_nil, a_cons, r_nil, r_cons, o_nopart, o_part, i_rng1, i_rng2, i_zip, i_enum, i_cap, i_var, i_blt, i_call, i_tup, i_lst, i_idx, i_slc, q_add, q_sub, q_neg, q_lt, q_le, q_gt, q_ge, q_eqI, q_neI, q_isNN, q_isNT, q_isNI, q_isNL, q_isnNN, q_isnNT, q_isnNI, q_isnNL, q_andT, q_andF, q_orT, q_orF, q_not, q_toB, q_part, q_fzI, q_fzB, q_fzS, q_fzN, q_fzT, q_fzL, q_fzW, q_fzSt, q_fzSc, s_nil, s_cons, k_nx, k_rt, k_bk, k_ct, s_asg, s_asgF, s_asgT, k_asg, s_par, s_expr, s_iff, s_retN, s_raise, s_brk, s_cont, s_pass, s_frz, k_frzO, k_frzV, s_retV, k_retO, k_retV, s_ret_non, s_ret_bl, s_ret_int, s_ret_str, s_ret_con, s_ret_bin, s_ret_neg, s_ret_cmp, s_ret_chain, s_ret_and, s_ret_or, s_ret_not, s_ret_ite, s_ret_tup, s_ret_lst, s_ret_idx, s_ret_slc, s_ret_call, s_ret_callK, s_ret_blt, s_ret_isk, s_ret_comp, s_app, k_runR, k_runN, for_nil, k_forN, k_forC, k_forB, k_forR, g_nm, g_tp, o_some, noErr_ret, Yes, retK, ret_bind, err_bind, bad_bind, draw_bind, getV, slOf, slO, setAll, parT, List.length_cons, List.length_nil, List.map_cons, List.map_nil, List.getElem?_cons_zero, List.getElem?_cons_succ, List.set_cons_zero, List.set_cons_succ, List.cons_append, List.nil_append, List.replicate_succ, List.replicate_zero, fz1, h5, h9]
  cases (LP (k.s + k.r)).find? (hit (pay (l ++ [k])) 1 1) <;> rfl
theorem f12 {n : Nat} {l : List Br} {k : Br} (v : VS (l ++ [k])) : callF tab WH (n + 5) 12 [scD (l ++ [k])] = .ret (optD ((LP (k.s + k.r)).find? (hit (pay (l ++ [k])) (-1) 1))) := by
  show runD (callF tab WH (n + 4)) WH d12 _ = _
  rw [run_eq rfl]
  have h5 := f5 (n := n) v
  have h9 := f9 (n := n + 1) v.sz (sg := -1) (t := 1) (by decide) (by decide)
  have fz1 : fz (scD (l ++ [k])) = .ret (scD (l ++ [k])) := rfl
  simp only [d12, startE]
  simp only [e_non, e_bl, e_int, e_str, e_var, e_con, e_bin, e_neg, e_cmp, e_chain, e_and, e_or, e_not, e_ite, e_tup, e_lst, e_idx, e_slc, e_call, e_callK, e_blt, e_isk, b_var, b_cmp, b_chain, b_and, b_or, b_not, b_yes, b_call, b_callK, b_blt, b_isk, a_nil, a_cons, r_nil, r_cons, o_nopart, o_part, i_rng1, i_rng2, i_zip, i_enum, i_cap, i_var, i_blt, i_call, i_tup, i_lst, i_idx, i_slc, q_add, q_sub, q_neg, q_lt, q_le, q_gt, q_ge, q_eqI, q_neI, q_isNN, q_isNT, q_isNI, q_isNL, q_isnNN, q_isnNT, q_isnNI, q_isnNL, q_andT, q_andF, q_orT, q_orF, q_not, q_toB, q_part, q_fzI, q_fzB, q_fzS, q_fzN, q_fzT, q_fzL, q_fzW, q_fzSt, q_fzSc, s_nil, s_cons, k_nx, k_rt, k_bk, k_ct, s_asg, s_asgF, s_asgT, k_asg, s_par, s_expr, s_iff, s_retN, s_raise, s_brk, s_cont, s_pass, s_frz, k_frzO, k_frzV, s_retV, k_retO, k_retV, s_ret_non, s_ret_bl, s_ret_int, s_ret_str, s_ret_con, s_ret_bin, s_ret_neg, s_ret_cmp, s_ret_chain, s_ret_and, s_ret_or, s_ret_not, s_ret_ite, s_ret_tup, s_ret_lst, s_ret_idx, s_ret_slc, s_ret_call, s_ret_callK, s_ret_blt, s_ret_isk, s_ret_comp, s_app, k_runR, k_runN, for_nil, k_forN, k_forC, k_forB, k_forR, g_nm, g_tp, o_some, noErr_ret, Yes, retK, ret_bind, err_bind, bad_bind, draw_bind, getV, slOf, slO, setAll, parT, List.length_cons, List.length_nil, List.map_cons, List.map_nil, List.getElem?_cons_zero, List.getElem?_cons_succ, List.set_cons_zero, List.set_cons_succ, List.cons_append, List.nil_append, List.replicate_succ, List.replicate_zero, fz1, h5, h9]
  cases (LP (k.s + k.r)).find? (hit (pay (l ++ [k])) (-1) 1) <;> rfl
theorem f13 {n : Nat} {l : List Br} {k : Br} (v : VS (l ++ [k])) {x : Int × Int} (hx : (LP (k.s + k.r)).find? (hit (pay (l ++ [k])) 1 (bigM (pay (l ++ [k])) 1 (k.s + k.r))) = some x) :
    callF tab WH (n + 5) 13 [scD (l ++ [k])] = .ret (mostD (bigM (pay (l ++ [k])) 1 (k.s + k.r)) x) := by
  show runD (callF tab WH (n + 4)) WH d13 _ = _
  rw [run_eq rfl]
  have h5 := f5 (n := n) v
  have h10 := f10 (n := n) v.sz (sg := 1) (by decide) (by decide) hx
  have fz1 : fz (scD (l ++ [k])) = .ret (scD (l ++ [k])) := rfl
  simp only [d13, startE]
  simp only [e_non, e_bl, e_int, e_str, e_var, e_con, e_bin, e_neg, e_cmp, e_chain, e_and, e_or, e_not, e_ite, e_tup, e_lst, e_idx, e_slc, e_call, e_callK, e_blt, e_isk, b_var, b_cmp, b_chain, b_and, b_or, b_not, b_yes, b_call, b_callK, b_blt, b_isk, a_nil, a_cons, r_nil, r_cons, o_nopart, o_part, i_rng1, i_rng2, i_zip, i_enum, i_cap, i_var, i_blt, i_call, i_tup, i_lst, i_idx, i_slc, q_add, q_sub, q_neg, q_lt, q_le, q_gt, q_ge, q_eqI, q_neI, q_isNN, q_isNT, q_isNI, q_isNL, q_isnNN, q_isnNT, q_isnNI, q_isnNL, q_andT, q_andF, q_orT, q_orF, q_not, q_toB, q_part, q_fzI, q_fzB, q_fzS, q_fzN, q_fzT, q_fzL, q_fzW, q_fzSt, q_fzSc, s_nil, s_cons, k_nx, k_rt, k_bk, k_ct, s_asg, s_asgF, s_asgT, k_asg, s_par, s_expr, s_iff, s_retN, s_raise, s_brk, s_cont, s_pass, s_frz, k_frzO, k_frzV, s_retV, k_retO, k_retV, s_ret_non, s_ret_bl, s_ret_int, s_ret_str, s_ret_con, s_ret_bin, s_ret_neg, s_ret_cmp, s_ret_chain, s_ret_and, s_ret_or, s_ret_not, s_ret_ite, s_ret_tup, s_ret_lst, s_ret_idx, s_ret_slc, s_ret_call, s_ret_callK, s_ret_blt, s_ret_isk, s_ret_comp, s_app, k_runR, k_runN, for_nil, k_forN, k_forC, k_forB, k_forR, g_nm, g_tp, o_some, noErr_ret, Yes, retK, ret_bind, err_bind, bad_bind, draw_bind, getV, slOf, slO, setAll, parT, List.length_cons, List.length_nil, List.map_cons, List.map_nil, List.getElem?_cons_zero, List.getElem?_cons_succ, List.set_cons_zero, List.set_cons_succ, List.cons_append, List.nil_append, List.replicate_succ, List.replicate_zero, fz1, h5, h10]
  rfl
theorem f14 {n : Nat} {l : List Br} {k : Br} (v : VS (l ++ [k])) {x : Int × Int} (hx : (LP (k.s + k.r)).find? (hit (pay (l ++ [k])) (-1) (bigM (pay (l ++ [k])) (-1) (k.s + k.r))) = some x) :
    callF tab WH (n + 5) 14 [scD (l ++ [k])] = .ret (mostD (bigM (pay (l ++ [k])) (-1) (k.s + k.r)) x) := by
  show runD (callF tab WH (n + 4)) WH d14 _ = _
  rw [run_eq rfl]
  have h5 := f5 (n := n) v
  have h10 := f10 (n := n) v.sz (sg := -1) (by decide) (by decide) hx
  have fz1 : fz (scD (l ++ [k])) = .ret (scD (l ++ [k])) := rfl
  simp only [d14, startE]
  simp only [e_non, e_bl, e_int, e_str, e_var, e_con, e_bin, e_neg, e_cmp, e_chain, e_and, e_or, e_not, e_ite, e_tup, e_lst, e_idx, e_slc, e_call, e_callK, e_blt, e_isk, b_var, b_cmp, b_chain, b_and, b_or, b_not, b_yes, b_call, b_callK, b_blt, b_isk, a_nil, a_cons, r_nil, r_cons, o_nopart, o_part, i_rng1, i_rng2, i_zip, i_enum, i_cap, i_var, i_blt, i_call, i_tup, i_lst, i_idx, i_slc, q_add, q_sub, q_neg, q_lt, q_le, q_gt, q_ge, q_eqI, q_neI, q_isNN, q_isNT, q_isNI, q_isNL, q_isnNN, q_isnNT, q_isnNI, q_isnNL, q_andT, q_andF, q_orT, q_orF, q_not, q_toB, q_part, q_fzI, q_fzB, q_fzS, q_fzN, q_fzT, q_fzL, q_fzW, q_fzSt, q_fzSc, s_nil, s_cons, k_nx, k_rt, k_bk, k_ct, s_asg, s_asgF, s_asgT, k_asg, s_par, s_expr, s_iff, s_retN, s_raise, s_brk, s_cont, s_pass, s_frz, k_frzO, k_frzV, s_retV, k_retO, k_retV, s_ret_non, s_ret_bl, s_ret_int, s_ret_str, s_ret_con, s_ret_bin, s_ret_neg, s_ret_cmp, s_ret_chain, s_ret_and, s_ret_or, s_ret_not, s_ret_ite, s_ret_tup, s_ret_lst, s_ret_idx, s_ret_slc, s_ret_call, s_ret_callK, s_ret_blt, s_ret_isk, s_ret_comp, s_app, k_runR, k_runN, for_nil, k_forN, k_forC, k_forB, k_forR, g_nm, g_tp, o_some, noErr_ret, Yes, retK, ret_bind, err_bind, bad_bind, draw_bind, getV, slOf, slO, setAll, parT, List.length_cons, List.length_nil, List.map_cons, List.map_nil, List.getElem?_cons_zero, List.getElem?_cons_succ, List.set_cons_zero, List.set_cons_succ, List.cons_append, List.nil_append, List.replicate_succ, List.replicate_zero, fz1, h5, h10]
  rfl
end LW
end
section
set_option maxHeartbeats 1000000
namespace LW
open PySem PV
theorem ins_perm (x : Int) : ∀ ys : List Int, (insI x ys).Perm (x :: ys)
  | [] => .refl _
  | y :: ys => by
    unfold insI
    split
    · exact .refl _
    · exact ((ins_perm x ys).cons y).trans (.swap x y ys)
theorem sort_perm : ∀ xs : List Int, (sortI xs).Perm xs
  | [] => .refl _
  | x :: xs => (ins_perm x (sortI xs)).trans ((sort_perm xs).cons x)
theorem ins_sorted (x : Int) : ∀ ys : List Int, ys.Pairwise (· < ·) → x ∉ ys → (insI x ys).Pairwise (· < ·)
  | [], _, _ => by simp [insI]
  | y :: ys, h, hx => by
    unfold insI
    rw [List.pairwise_cons] at h
    have hne : x ≠ y := fun e => hx (by rw [e]; exact List.mem_cons_self)
    split
    · rename_i q
      rw [List.pairwise_cons, List.pairwise_cons]
      refine ⟨fun z hz => ?_, h⟩
      rcases List.mem_cons.mp hz with e | e
      · subst e; omega
      · have := h.1 z e; omega
    · rename_i q
      rw [List.pairwise_cons]
      refine ⟨fun z hz => ?_, ins_sorted x ys h.2 fun m => hx (List.mem_cons_of_mem _ m)⟩
      rcases List.mem_cons.mp ((ins_perm x ys).mem_iff.mp hz) with e | e
      · subst e; omega
      · exact h.1 z e
theorem sort_sorted : ∀ xs : List Int, xs.Nodup → (sortI xs).Pairwise (· < ·)
  | [], _ => .nil
  | x :: xs, h => by
    rw [List.nodup_cons] at h
    exact ins_sorted x _ (sort_sorted xs h.2) fun m => h.1 ((sort_perm xs).mem_iff.mp m)
theorem dr {m : Nat} {k : Int} (h : 0 < k) (h2 : k < 2 ^ 64) : callF tab WH (m + 2) 0 [.sta, .int k] = .draw k fun d => .ret (.int d) := by
  show (if m + 1 = 0 then T.bad else drawP [.sta, .int k]) = _
  rw [if_neg (by omega), draw_ok h h2]
theorem intsD_map : ∀ ns : List Int, intsD (ns.map D.int) = some ns
  | [] => rfl
  | n :: ns => by
    show (intsD (ns.map D.int)).map (n :: ·) = _
    rw [intsD_map ns]
    rfl
theorem nin_int {s : Int} {ss : List Int} : cmpT .nin (.int s) (.lst (ss.map D.int)) = .ret (!decide (s ∈ ss)) := by
  have h1 : (ss.map D.int).all flat = true := by
    rw [List.all_map, List.all_eq_true]
    exact fun _ _ => rfl
  have h2 : ((ss.map D.int).any fun y => PyData.eqv y.toPy (D.int s).toPy) = decide (s ∈ ss) := by
    rw [List.any_map]
    induction ss with
    | nil => rfl
    | cons a ss ih =>
      rw [List.any_cons, ih (by rw [List.all_map, List.all_eq_true]; exact fun _ _ => rfl)]
      by_cases c : a = s
      · subst c
        simp [D.toPy, PyData.eqv]
      · have c' : ¬ s = a := fun e => c e.symm
        simp [D.toPy, PyData.eqv, c, c']
  show ((if flat (.int s) = true ∧ (ss.map D.int).all flat = true then T.ret ((ss.map D.int).any fun y => PyData.eqv y.toPy (D.int s).toPy) else T.bad) >>= fun k => T.ret (!k)) = _
  rw [if_pos ⟨rfl, h1⟩, h2]
  rfl
theorem add_lst {xs ys : List D} (h : xs.length + ys.length ≤ 16777216) : binT .add (.lst xs) (.new ys) = .ret (.new (xs ++ ys)) := if_pos h
def b17a : S := (.cons (.asgF 5 (.bin .add (.int 1) (.call 0 (.cons (.var 0) (.cons (.var 1) .nil))))) (.cons (.asgF 7 (.bin .add (.var 7) (.ite (.cmp .nin (.var 5) (.var 7)) (.lst (.cons (.var 5) .nil)) (.lst .nil)))) .nil))
def I17 (top : Int) (a1 a2 a3 a6 a8 a9 a10 : Sl) (l : List Int) (r : PV.Env) : Prop := ∃ (ss : List Int) (x4 x5 : Sl), r = [.val .sta, a1, a2, a3, x4, x5, a6, .val (.lst (ss.map D.int)), a8, a9, a10] ∧ ss.Nodup ∧ (∀ s ∈ ss, 1 ≤ s ∧ s ≤ top) ∧ ss.length + l.length ≤ 5
theorem loop17a {n : Nat} {top : Int} (h1 : 1 ≤ top) (h2 : top ≤ 400) {a2 a3 a6 a8 a9 a10 : Sl} {V : D → Prop} (l : List Int) (r : PV.Env) (hr : I17 top (.val (.int top)) a2 a3 a6 a8 a9 a10 l r) :
    (forL (bindTg (.nm 4)) (ex (callF tab WH (n + 2)) WH b17a) (l.map D.int) r).All0 (goP (I17 top (.val (.int top)) a2 a3 a6 a8 a9 a10 []) V) fun _ => False := by
  refine for_all (Inv := I17 top (.val (.int top)) a2 a3 a6 a8 a9 a10) l (fun x l' r hr => ?_) r hr
  obtain ⟨ss, x4, x5, rfl, nd, hs, hl⟩ := hr
  refine ⟨_, rfl, ?_⟩
  have d1 := dr (m := n) (k := top) (by omega) (by omega)
  unfold b17a
  simp only [e_non, e_bl, e_int, e_str, e_var, e_con, e_bin, e_neg, e_cmp, e_chain, e_and, e_or, e_not, e_ite, e_tup, e_lst, e_idx, e_slc, e_call, e_callK, e_blt, e_isk, b_var, b_cmp, b_chain, b_and, b_or, b_not, b_yes, b_call, b_callK, b_blt, b_isk, a_nil, a_cons, r_nil, r_cons, o_nopart, o_part, i_rng1, i_rng2, i_zip, i_enum, i_cap, i_var, i_blt, i_call, i_tup, i_lst, i_idx, i_slc, q_add, q_sub, q_neg, q_lt, q_le, q_gt, q_ge, q_eqI, q_neI, q_isNN, q_isNT, q_isNI, q_isNL, q_isnNN, q_isnNT, q_isnNI, q_isnNL, q_andT, q_andF, q_orT, q_orF, q_not, q_toB, q_part, q_fzI, q_fzB, q_fzS, q_fzN, q_fzT, q_fzL, q_fzW, q_fzSt, q_fzSc, s_nil, s_cons, k_nx, k_rt, k_bk, k_ct, s_asg, s_asgF, s_asgT, k_asg, s_par, s_expr, s_iff, s_retN, s_raise, s_brk, s_cont, s_pass, s_frz, k_frzO, k_frzV, s_retV, k_retO, k_retV, s_ret_non, s_ret_bl, s_ret_int, s_ret_str, s_ret_con, s_ret_bin, s_ret_neg, s_ret_cmp, s_ret_chain, s_ret_and, s_ret_or, s_ret_not, s_ret_ite, s_ret_tup, s_ret_lst, s_ret_idx, s_ret_slc, s_ret_call, s_ret_callK, s_ret_blt, s_ret_isk, s_ret_comp, s_app, k_runR, k_runN, for_nil, k_forN, k_forC, k_forB, k_forR, g_nm, g_tp, o_some, noErr_ret, retK, ret_bind, err_bind, bad_bind, draw_bind, getV, slOf, slO, setAll, parT, List.length_cons, List.length_nil, List.map_cons, List.map_nil, List.getElem?_cons_zero, List.getElem?_cons_succ, List.set_cons_zero, List.set_cons_succ, List.cons_append, List.nil_append, List.replicate_succ, List.replicate_zero, d1]
  refine fun d d0 d1 => ?_
  have lt : lenT [.int (1 + d)] (.new [.int (1 + d)]) = .ret (.new [.int (1 + d)]) := rfl
  have lt0 : lenT [] (.new []) = .ret (.new []) := rfl
  rw [List.length_cons] at hl
  have ad := add_lst (xs := ss.map D.int) (ys := [.int (1 + d)]) (by rw [List.length_map]; show ss.length + 1 ≤ _; omega)
  have ad0 := add_lst (xs := ss.map D.int) (ys := []) (by rw [List.length_map]; show ss.length + 0 ≤ _; omega)
  simp only [e_non, e_bl, e_int, e_str, e_var, e_con, e_bin, e_neg, e_cmp, e_chain, e_and, e_or, e_not, e_ite, e_tup, e_lst, e_idx, e_slc, e_call, e_callK, e_blt, e_isk, b_var, b_cmp, b_chain, b_and, b_or, b_not, b_yes, b_call, b_callK, b_blt, b_isk, a_nil, a_cons, r_nil, r_cons, o_nopart, o_part, i_rng1, i_rng2, i_zip, i_enum, i_cap, i_var, i_blt, i_call, i_tup, i_lst, i_idx, i_slc, q_add, q_sub, q_neg, q_lt, q_le, q_gt, q_ge, q_eqI, q_neI, q_isNN, q_isNT, q_isNI, q_isNL, q_isnNN, q_isnNT, q_isnNI, q_isnNL, q_andT, q_andF, q_orT, q_orF, q_not, q_toB, q_part, q_fzI, q_fzB, q_fzS, q_fzN, q_fzT, q_fzL, q_fzW, q_fzSt, q_fzSc, s_nil, s_cons, k_nx, k_rt, k_bk, k_ct, s_asg, s_asgF, s_asgT, k_asg, s_par, s_expr, s_iff, s_retN, s_raise, s_brk, s_cont, s_pass, s_frz, k_frzO, k_frzV, s_retV, k_retO, k_retV, s_ret_non, s_ret_bl, s_ret_int, s_ret_str, s_ret_con, s_ret_bin, s_ret_neg, s_ret_cmp, s_ret_chain, s_ret_and, s_ret_or, s_ret_not, s_ret_ite, s_ret_tup, s_ret_lst, s_ret_idx, s_ret_slc, s_ret_call, s_ret_callK, s_ret_blt, s_ret_isk, s_ret_comp, s_app, k_runR, k_runN, for_nil, k_forN, k_forC, k_forB, k_forR, g_nm, g_tp, o_some, noErr_ret, retK, ret_bind, err_bind, bad_bind, draw_bind, getV, slOf, slO, setAll, parT, List.length_cons, List.length_nil, List.map_cons, List.map_nil, List.getElem?_cons_zero, List.getElem?_cons_succ, List.set_cons_zero, List.set_cons_succ, List.cons_append, List.nil_append, List.replicate_succ, List.replicate_zero, nin_int]
  by_cases c : 1 + d ∈ ss
  · simp only [c, decide_true, Bool.not_true, Bool.false_eq_true, if_false, e_non, e_bl, e_int, e_str, e_var, e_con, e_bin, e_neg, e_cmp, e_chain, e_and, e_or, e_not, e_ite, e_tup, e_lst, e_idx, e_slc, e_call, e_callK, e_blt, e_isk, b_var, b_cmp, b_chain, b_and, b_or, b_not, b_yes, b_call, b_callK, b_blt, b_isk, a_nil, a_cons, r_nil, r_cons, o_nopart, o_part, i_rng1, i_rng2, i_zip, i_enum, i_cap, i_var, i_blt, i_call, i_tup, i_lst, i_idx, i_slc, q_add, q_sub, q_neg, q_lt, q_le, q_gt, q_ge, q_eqI, q_neI, q_isNN, q_isNT, q_isNI, q_isNL, q_isnNN, q_isnNT, q_isnNI, q_isnNL, q_andT, q_andF, q_orT, q_orF, q_not, q_toB, q_part, q_fzI, q_fzB, q_fzS, q_fzN, q_fzT, q_fzL, q_fzW, q_fzSt, q_fzSc, s_nil, s_cons, k_nx, k_rt, k_bk, k_ct, s_asg, s_asgF, s_asgT, k_asg, s_par, s_expr, s_iff, s_retN, s_raise, s_brk, s_cont, s_pass, s_frz, k_frzO, k_frzV, s_retV, k_retO, k_retV, s_ret_non, s_ret_bl, s_ret_int, s_ret_str, s_ret_con, s_ret_bin, s_ret_neg, s_ret_cmp, s_ret_chain, s_ret_and, s_ret_or, s_ret_not, s_ret_ite, s_ret_tup, s_ret_lst, s_ret_idx, s_ret_slc, s_ret_call, s_ret_callK, s_ret_blt, s_ret_isk, s_ret_comp, s_app, k_runR, k_runN, for_nil, k_forN, k_forC, k_forB, k_forR, g_nm, g_tp, o_some, noErr_ret, retK, ret_bind, err_bind, bad_bind, draw_bind, getV, slOf, slO, setAll, parT, List.length_cons, List.length_nil, List.map_cons, List.map_nil, List.getElem?_cons_zero, List.getElem?_cons_succ, List.set_cons_zero, List.set_cons_succ, List.cons_append, List.nil_append, List.replicate_succ, List.replicate_zero, lt0, ad0]
    exact ⟨ss, _, _, by rw [List.append_nil], nd, hs, by omega⟩
  · simp only [c, decide_false, Bool.not_false, if_true, e_non, e_bl, e_int, e_str, e_var, e_con, e_bin, e_neg, e_cmp, e_chain, e_and, e_or, e_not, e_ite, e_tup, e_lst, e_idx, e_slc, e_call, e_callK, e_blt, e_isk, b_var, b_cmp, b_chain, b_and, b_or, b_not, b_yes, b_call, b_callK, b_blt, b_isk, a_nil, a_cons, r_nil, r_cons, o_nopart, o_part, i_rng1, i_rng2, i_zip, i_enum, i_cap, i_var, i_blt, i_call, i_tup, i_lst, i_idx, i_slc, q_add, q_sub, q_neg, q_lt, q_le, q_gt, q_ge, q_eqI, q_neI, q_isNN, q_isNT, q_isNI, q_isNL, q_isnNN, q_isnNT, q_isnNI, q_isnNL, q_andT, q_andF, q_orT, q_orF, q_not, q_toB, q_part, q_fzI, q_fzB, q_fzS, q_fzN, q_fzT, q_fzL, q_fzW, q_fzSt, q_fzSc, s_nil, s_cons, k_nx, k_rt, k_bk, k_ct, s_asg, s_asgF, s_asgT, k_asg, s_par, s_expr, s_iff, s_retN, s_raise, s_brk, s_cont, s_pass, s_frz, k_frzO, k_frzV, s_retV, k_retO, k_retV, s_ret_non, s_ret_bl, s_ret_int, s_ret_str, s_ret_con, s_ret_bin, s_ret_neg, s_ret_cmp, s_ret_chain, s_ret_and, s_ret_or, s_ret_not, s_ret_ite, s_ret_tup, s_ret_lst, s_ret_idx, s_ret_slc, s_ret_call, s_ret_callK, s_ret_blt, s_ret_isk, s_ret_comp, s_app, k_runR, k_runN, for_nil, k_forN, k_forC, k_forB, k_forR, g_nm, g_tp, o_some, noErr_ret, retK, ret_bind, err_bind, bad_bind, draw_bind, getV, slOf, slO, setAll, parT, List.length_cons, List.length_nil, List.map_cons, List.map_nil, List.getElem?_cons_zero, List.getElem?_cons_succ, List.set_cons_zero, List.set_cons_succ, List.cons_append, List.nil_append, List.replicate_succ, List.replicate_zero, lt, ad]
    refine ⟨ss ++ [1 + d], _, _, by rw [List.map_append]; rfl, ?_, fun s hs' => ?_, by rw [List.length_append]; show ss.length + 1 + l'.length ≤ 5; omega⟩
    · rw [List.nodup_append]
      exact ⟨nd, by simp, fun a ha b hb e => by rw [List.mem_singleton.mp hb] at e; exact c (by rw [← e]; exact ha)⟩
    · rcases List.mem_append.mp hs' with e | e
      · exact hs s e
      · rw [List.mem_singleton.mp e]; omega

def b17b : S := (.cons (.par [3, 9, 10] (.cons (.bin .add (.int 1) (.call 0 (.cons (.var 0) (.cons (.var 2) .nil)))) (.cons (.call 0 (.cons (.var 0) (.cons (.int 5) .nil))) (.cons (.call 16 (.cons (.blt .tuple (.cons (.var 6) .nil)) (.cons (.var 5) .nil))) .nil)))) (.cons (.asgF 8 (.idx (.lst (.cons (.var 10) (.cons (.bin .sub (.bin .add (.var 10) (.call 0 (.cons (.var 0) (.cons (.int 7) .nil)))) (.int 3)) (.cons (.int 0) (.cons (.call 0 (.cons (.var 0) (.cons (.bin .add (.bin .mul (.int 3) (.var 5)) (.int 1)) .nil))) (.cons (.bin .add (.var 10) (.call 0 (.cons (.var 0) (.cons (.int 3) .nil)))) .nil)))))) (.var 9))) (.cons (.app 6 (.tup (.cons (.var 5) (.cons (.blt .min (.cons (.blt .max (.cons (.var 8) (.cons (.int 0) .nil))) (.cons (.int 2000) .nil))) (.cons (.call 0 (.cons (.var 0) (.cons (.bin .add (.bin .mul (.int 3) (.var 3)) (.int 1)) .nil))) (.cons (.var 3) .nil)))))) .nil)))
structure Made (top width : Int) (l : List Br) (rest : List Int) : Prop where
  hd : ∃ b t, l = b :: t ∧ b.s = 0 ∧ b.b = 0
  vb : ∀ k ∈ l, VB k ∧ k.r ≤ width ∧ k.s ≤ top
  inc : l.Pairwise fun x y => x.s < y.s
  lt : ∀ k ∈ l, ∀ x ∈ rest, k.s < x
  rinc : rest.Pairwise (· < ·)
  rb : ∀ x ∈ rest, 1 ≤ x ∧ x ≤ top
  len : l.length + rest.length ≤ 6
def J17 (top width : Int) (a1 a2 : Sl) (rest : List Int) (r : PV.Env) : Prop := ∃ (l : List Br) (x3 x4 x5 x7 x8 x9 x10 : Sl), r = [.val .sta, a1, a2, x3, x4, x5, .own (l.map brD), x7, x8, x9, x10] ∧ Made top width l rest
theorem min_int {i j : Int} : bltT .min [.int i, .int j] = .ret (.int (min i j)) := by
  show T.ret (D.int (if j < i then j else i)) = _
  congr 2
  omega
theorem pick5 {a b c d e w : Int} (h0 : 0 ≤ w) (h1 : w < 5) : ∃ v, idxT (.new [.int a, .int b, .int c, .int d, .int e]) (.int w) = .ret (.int v) := by
  have : w = 0 ∨ w = 1 ∨ w = 2 ∨ w = 3 ∨ w = 4 := by omega
  rcases this with rfl | rfl | rfl | rfl | rfl
  · exact ⟨a, rfl⟩
  · exact ⟨b, rfl⟩
  · exact ⟨c, rfl⟩
  · exact ⟨d, rfl⟩
  · exact ⟨e, rfl⟩
theorem loop17b {n : Nat} {top width : Int} (h1 : 1 ≤ top) (h2 : top ≤ 400) (w1 : 1 ≤ width) (w2 : width ≤ 20) {a1 : Sl} {V : D → Prop} (l : List Int) (r : PV.Env) (hr : J17 top width a1 (.val (.int width)) l r) :
    (forL (bindTg (.nm 5)) (ex (callF tab WH (n + 2)) WH b17b) (l.map D.int) r).All0 (goP (J17 top width a1 (.val (.int width)) []) V) fun _ => False := by
  refine for_all (Inv := J17 top width a1 (.val (.int width))) l (fun x l' r hr => ?_) r hr
  obtain ⟨fd, x3, x4, x5, x7, x8, x9, x10, rfl, md⟩ := hr
  have hx := md.rb x List.mem_cons_self
  refine ⟨_, rfl, ?_⟩
  have e1 := dr (m := n) (k := width) (by omega) (by omega)
  have e2 := dr (m := n) (k := 5) (by omega) (by omega)
  have e16 := f16 (n := n + 1) (l := fd) (a := x) fun k hk => (md.vb k hk).1.vr
  have tp : bltT .tuple [.bor (fd.map brD)] = .ret (scD fd) := rfl
  have fz1 : fz (scD fd) = .ret (scD fd) := rfl
  unfold b17b
  simp only [e_non, e_bl, e_int, e_str, e_var, e_con, e_bin, e_neg, e_cmp, e_chain, e_and, e_or, e_not, e_ite, e_tup, e_lst, e_idx, e_slc, e_call, e_callK, e_blt, e_isk, b_var, b_cmp, b_chain, b_and, b_or, b_not, b_yes, b_call, b_callK, b_blt, b_isk, a_nil, a_cons, r_nil, r_cons, o_nopart, o_part, i_rng1, i_rng2, i_zip, i_enum, i_cap, i_var, i_blt, i_call, i_tup, i_lst, i_idx, i_slc, q_add, q_sub, q_neg, q_lt, q_le, q_gt, q_ge, q_eqI, q_neI, q_isNN, q_isNT, q_isNI, q_isNL, q_isnNN, q_isnNT, q_isnNI, q_isnNL, q_andT, q_andF, q_orT, q_orF, q_not, q_toB, q_part, q_fzI, q_fzB, q_fzS, q_fzN, q_fzT, q_fzL, q_fzW, q_fzSt, q_fzSc, s_nil, s_cons, k_nx, k_rt, k_bk, k_ct, s_asg, s_asgF, s_asgT, k_asg, s_par, s_expr, s_iff, s_retN, s_raise, s_brk, s_cont, s_pass, s_frz, k_frzO, k_frzV, s_retV, k_retO, k_retV, s_ret_non, s_ret_bl, s_ret_int, s_ret_str, s_ret_con, s_ret_bin, s_ret_neg, s_ret_cmp, s_ret_chain, s_ret_and, s_ret_or, s_ret_not, s_ret_ite, s_ret_tup, s_ret_lst, s_ret_idx, s_ret_slc, s_ret_call, s_ret_callK, s_ret_blt, s_ret_isk, s_ret_comp, s_app, k_runR, k_runN, for_nil, k_forN, k_forC, k_forB, k_forR, g_nm, g_tp, o_some, noErr_ret, retK, ret_bind, err_bind, bad_bind, draw_bind, getV, slOf, slO, setAll, parT, List.length_cons, List.length_nil, List.map_cons, List.map_nil, List.getElem?_cons_zero, List.getElem?_cons_succ, List.set_cons_zero, List.set_cons_succ, List.cons_append, List.nil_append, List.replicate_succ, List.replicate_zero, e1]
  refine fun d0 p0 p1 => ?_
  simp only [e_non, e_bl, e_int, e_str, e_var, e_con, e_bin, e_neg, e_cmp, e_chain, e_and, e_or, e_not, e_ite, e_tup, e_lst, e_idx, e_slc, e_call, e_callK, e_blt, e_isk, b_var, b_cmp, b_chain, b_and, b_or, b_not, b_yes, b_call, b_callK, b_blt, b_isk, a_nil, a_cons, r_nil, r_cons, o_nopart, o_part, i_rng1, i_rng2, i_zip, i_enum, i_cap, i_var, i_blt, i_call, i_tup, i_lst, i_idx, i_slc, q_add, q_sub, q_neg, q_lt, q_le, q_gt, q_ge, q_eqI, q_neI, q_isNN, q_isNT, q_isNI, q_isNL, q_isnNN, q_isnNT, q_isnNI, q_isnNL, q_andT, q_andF, q_orT, q_orF, q_not, q_toB, q_part, q_fzI, q_fzB, q_fzS, q_fzN, q_fzT, q_fzL, q_fzW, q_fzSt, q_fzSc, s_nil, s_cons, k_nx, k_rt, k_bk, k_ct, s_asg, s_asgF, s_asgT, k_asg, s_par, s_expr, s_iff, s_retN, s_raise, s_brk, s_cont, s_pass, s_frz, k_frzO, k_frzV, s_retV, k_retO, k_retV, s_ret_non, s_ret_bl, s_ret_int, s_ret_str, s_ret_con, s_ret_bin, s_ret_neg, s_ret_cmp, s_ret_chain, s_ret_and, s_ret_or, s_ret_not, s_ret_ite, s_ret_tup, s_ret_lst, s_ret_idx, s_ret_slc, s_ret_call, s_ret_callK, s_ret_blt, s_ret_isk, s_ret_comp, s_app, k_runR, k_runN, for_nil, k_forN, k_forC, k_forB, k_forR, g_nm, g_tp, o_some, noErr_ret, retK, ret_bind, err_bind, bad_bind, draw_bind, getV, slOf, slO, setAll, parT, List.length_cons, List.length_nil, List.map_cons, List.map_nil, List.getElem?_cons_zero, List.getElem?_cons_succ, List.set_cons_zero, List.set_cons_succ, List.cons_append, List.nil_append, List.replicate_succ, List.replicate_zero, e2]
  refine fun d1 p2 p3 => ?_
  have e3 := dr (m := n) (k := 7) (by omega) (by omega)
  simp only [e_non, e_bl, e_int, e_str, e_var, e_con, e_bin, e_neg, e_cmp, e_chain, e_and, e_or, e_not, e_ite, e_tup, e_lst, e_idx, e_slc, e_call, e_callK, e_blt, e_isk, b_var, b_cmp, b_chain, b_and, b_or, b_not, b_yes, b_call, b_callK, b_blt, b_isk, a_nil, a_cons, r_nil, r_cons, o_nopart, o_part, i_rng1, i_rng2, i_zip, i_enum, i_cap, i_var, i_blt, i_call, i_tup, i_lst, i_idx, i_slc, q_add, q_sub, q_neg, q_lt, q_le, q_gt, q_ge, q_eqI, q_neI, q_isNN, q_isNT, q_isNI, q_isNL, q_isnNN, q_isnNT, q_isnNI, q_isnNL, q_andT, q_andF, q_orT, q_orF, q_not, q_toB, q_part, q_fzI, q_fzB, q_fzS, q_fzN, q_fzT, q_fzL, q_fzW, q_fzSt, q_fzSc, s_nil, s_cons, k_nx, k_rt, k_bk, k_ct, s_asg, s_asgF, s_asgT, k_asg, s_par, s_expr, s_iff, s_retN, s_raise, s_brk, s_cont, s_pass, s_frz, k_frzO, k_frzV, s_retV, k_retO, k_retV, s_ret_non, s_ret_bl, s_ret_int, s_ret_str, s_ret_con, s_ret_bin, s_ret_neg, s_ret_cmp, s_ret_chain, s_ret_and, s_ret_or, s_ret_not, s_ret_ite, s_ret_tup, s_ret_lst, s_ret_idx, s_ret_slc, s_ret_call, s_ret_callK, s_ret_blt, s_ret_isk, s_ret_comp, s_app, k_runR, k_runN, for_nil, k_forN, k_forC, k_forB, k_forR, g_nm, g_tp, o_some, noErr_ret, retK, ret_bind, err_bind, bad_bind, draw_bind, getV, slOf, slO, setAll, parT, List.length_cons, List.length_nil, List.map_cons, List.map_nil, List.getElem?_cons_zero, List.getElem?_cons_succ, List.set_cons_zero, List.set_cons_succ, List.cons_append, List.nil_append, List.replicate_succ, List.replicate_zero, tp, fz1, e16, e3]
  refine fun d2 p4 p5 => ?_
  have q1 := q_mulL (i := 3) (j := x) (by decide) (by decide)
  have e4 := dr (m := n) (k := 3 * x + 1) (by omega) (by omega)
  simp only [e_non, e_bl, e_int, e_str, e_var, e_con, e_bin, e_neg, e_cmp, e_chain, e_and, e_or, e_not, e_ite, e_tup, e_lst, e_idx, e_slc, e_call, e_callK, e_blt, e_isk, b_var, b_cmp, b_chain, b_and, b_or, b_not, b_yes, b_call, b_callK, b_blt, b_isk, a_nil, a_cons, r_nil, r_cons, o_nopart, o_part, i_rng1, i_rng2, i_zip, i_enum, i_cap, i_var, i_blt, i_call, i_tup, i_lst, i_idx, i_slc, q_add, q_sub, q_neg, q_lt, q_le, q_gt, q_ge, q_eqI, q_neI, q_isNN, q_isNT, q_isNI, q_isNL, q_isnNN, q_isnNT, q_isnNI, q_isnNL, q_andT, q_andF, q_orT, q_orF, q_not, q_toB, q_part, q_fzI, q_fzB, q_fzS, q_fzN, q_fzT, q_fzL, q_fzW, q_fzSt, q_fzSc, s_nil, s_cons, k_nx, k_rt, k_bk, k_ct, s_asg, s_asgF, s_asgT, k_asg, s_par, s_expr, s_iff, s_retN, s_raise, s_brk, s_cont, s_pass, s_frz, k_frzO, k_frzV, s_retV, k_retO, k_retV, s_ret_non, s_ret_bl, s_ret_int, s_ret_str, s_ret_con, s_ret_bin, s_ret_neg, s_ret_cmp, s_ret_chain, s_ret_and, s_ret_or, s_ret_not, s_ret_ite, s_ret_tup, s_ret_lst, s_ret_idx, s_ret_slc, s_ret_call, s_ret_callK, s_ret_blt, s_ret_isk, s_ret_comp, s_app, k_runR, k_runN, for_nil, k_forN, k_forC, k_forB, k_forR, g_nm, g_tp, o_some, noErr_ret, retK, ret_bind, err_bind, bad_bind, draw_bind, getV, slOf, slO, setAll, parT, List.length_cons, List.length_nil, List.map_cons, List.map_nil, List.getElem?_cons_zero, List.getElem?_cons_succ, List.set_cons_zero, List.set_cons_succ, List.cons_append, List.nil_append, List.replicate_succ, List.replicate_zero, q1, e4]
  refine fun d3 p6 p7 => ?_
  have e5 := dr (m := n) (k := 3) (by omega) (by omega)
  simp only [e_non, e_bl, e_int, e_str, e_var, e_con, e_bin, e_neg, e_cmp, e_chain, e_and, e_or, e_not, e_ite, e_tup, e_lst, e_idx, e_slc, e_call, e_callK, e_blt, e_isk, b_var, b_cmp, b_chain, b_and, b_or, b_not, b_yes, b_call, b_callK, b_blt, b_isk, a_nil, a_cons, r_nil, r_cons, o_nopart, o_part, i_rng1, i_rng2, i_zip, i_enum, i_cap, i_var, i_blt, i_call, i_tup, i_lst, i_idx, i_slc, q_add, q_sub, q_neg, q_lt, q_le, q_gt, q_ge, q_eqI, q_neI, q_isNN, q_isNT, q_isNI, q_isNL, q_isnNN, q_isnNT, q_isnNI, q_isnNL, q_andT, q_andF, q_orT, q_orF, q_not, q_toB, q_part, q_fzI, q_fzB, q_fzS, q_fzN, q_fzT, q_fzL, q_fzW, q_fzSt, q_fzSc, s_nil, s_cons, k_nx, k_rt, k_bk, k_ct, s_asg, s_asgF, s_asgT, k_asg, s_par, s_expr, s_iff, s_retN, s_raise, s_brk, s_cont, s_pass, s_frz, k_frzO, k_frzV, s_retV, k_retO, k_retV, s_ret_non, s_ret_bl, s_ret_int, s_ret_str, s_ret_con, s_ret_bin, s_ret_neg, s_ret_cmp, s_ret_chain, s_ret_and, s_ret_or, s_ret_not, s_ret_ite, s_ret_tup, s_ret_lst, s_ret_idx, s_ret_slc, s_ret_call, s_ret_callK, s_ret_blt, s_ret_isk, s_ret_comp, s_app, k_runR, k_runN, for_nil, k_forN, k_forC, k_forB, k_forR, g_nm, g_tp, o_some, noErr_ret, retK, ret_bind, err_bind, bad_bind, draw_bind, getV, slOf, slO, setAll, parT, List.length_cons, List.length_nil, List.map_cons, List.map_nil, List.getElem?_cons_zero, List.getElem?_cons_succ, List.set_cons_zero, List.set_cons_succ, List.cons_append, List.nil_append, List.replicate_succ, List.replicate_zero, e5]
  refine fun d4 p8 p9 => ?_
  have lt5 : ∀ a b c d e : D, lenT [a, b, c, d, e] (.new [a, b, c, d, e]) = .ret (.new [a, b, c, d, e]) := fun _ _ _ _ _ => rfl
  obtain ⟨v, ev⟩ := pick5 (a := pay fd x) (b := pay fd x + d2 - 3) (c := 0) (d := d3) (e := pay fd x + d4) p2 p3
  have hlen := md.len
  rw [List.length_cons] at hlen
  have ka : ∀ (r : PV.Env) (e : T D), appK r 6 e (some (.own (fd.map brD))) = e >>= fun d => fz d >>= fun d => .ret (.nx (r.set 6 (.own (fd.map brD ++ [d])))) := fun r e => k_app (by rw [List.length_map]; show fd.length < 16777216; omega)
  have q2 := q_mulL (i := 3) (j := 1 + d0) (by decide) (by decide)
  have e6 := dr (m := n) (k := 3 * (1 + d0) + 1) (by omega) (by omega)
  simp only [e_non, e_bl, e_int, e_str, e_var, e_con, e_bin, e_neg, e_cmp, e_chain, e_and, e_or, e_not, e_ite, e_tup, e_lst, e_idx, e_slc, e_call, e_callK, e_blt, e_isk, b_var, b_cmp, b_chain, b_and, b_or, b_not, b_yes, b_call, b_callK, b_blt, b_isk, a_nil, a_cons, r_nil, r_cons, o_nopart, o_part, i_rng1, i_rng2, i_zip, i_enum, i_cap, i_var, i_blt, i_call, i_tup, i_lst, i_idx, i_slc, q_add, q_sub, q_neg, q_lt, q_le, q_gt, q_ge, q_eqI, q_neI, q_isNN, q_isNT, q_isNI, q_isNL, q_isnNN, q_isnNT, q_isnNI, q_isnNL, q_andT, q_andF, q_orT, q_orF, q_not, q_toB, q_part, q_fzI, q_fzB, q_fzS, q_fzN, q_fzT, q_fzL, q_fzW, q_fzSt, q_fzSc, s_nil, s_cons, k_nx, k_rt, k_bk, k_ct, s_asg, s_asgF, s_asgT, k_asg, s_par, s_expr, s_iff, s_retN, s_raise, s_brk, s_cont, s_pass, s_frz, k_frzO, k_frzV, s_retV, k_retO, k_retV, s_ret_non, s_ret_bl, s_ret_int, s_ret_str, s_ret_con, s_ret_bin, s_ret_neg, s_ret_cmp, s_ret_chain, s_ret_and, s_ret_or, s_ret_not, s_ret_ite, s_ret_tup, s_ret_lst, s_ret_idx, s_ret_slc, s_ret_call, s_ret_callK, s_ret_blt, s_ret_isk, s_ret_comp, s_app, k_runR, k_runN, for_nil, k_forN, k_forC, k_forB, k_forR, g_nm, g_tp, o_some, noErr_ret, retK, ret_bind, err_bind, bad_bind, draw_bind, getV, slOf, slO, setAll, parT, List.length_cons, List.length_nil, List.map_cons, List.map_nil, List.getElem?_cons_zero, List.getElem?_cons_succ, List.set_cons_zero, List.set_cons_succ, List.cons_append, List.nil_append, List.replicate_succ, List.replicate_zero, lt5, ev, ka, max_int, min_int, q2, e6]
  refine fun d5 p10 p11 => ?_
  have lt4 : ∀ a b c d : D, lenT [a, b, c, d] (.tup [a, b, c, d]) = .ret (.tup [a, b, c, d]) := fun _ _ _ _ => rfl
  simp only [e_non, e_bl, e_int, e_str, e_var, e_con, e_bin, e_neg, e_cmp, e_chain, e_and, e_or, e_not, e_ite, e_tup, e_lst, e_idx, e_slc, e_call, e_callK, e_blt, e_isk, b_var, b_cmp, b_chain, b_and, b_or, b_not, b_yes, b_call, b_callK, b_blt, b_isk, a_nil, a_cons, r_nil, r_cons, o_nopart, o_part, i_rng1, i_rng2, i_zip, i_enum, i_cap, i_var, i_blt, i_call, i_tup, i_lst, i_idx, i_slc, q_add, q_sub, q_neg, q_lt, q_le, q_gt, q_ge, q_eqI, q_neI, q_isNN, q_isNT, q_isNI, q_isNL, q_isnNN, q_isnNT, q_isnNI, q_isnNL, q_andT, q_andF, q_orT, q_orF, q_not, q_toB, q_part, q_fzI, q_fzB, q_fzS, q_fzN, q_fzT, q_fzL, q_fzW, q_fzSt, q_fzSc, s_nil, s_cons, k_nx, k_rt, k_bk, k_ct, s_asg, s_asgF, s_asgT, k_asg, s_par, s_expr, s_iff, s_retN, s_raise, s_brk, s_cont, s_pass, s_frz, k_frzO, k_frzV, s_retV, k_retO, k_retV, s_ret_non, s_ret_bl, s_ret_int, s_ret_str, s_ret_con, s_ret_bin, s_ret_neg, s_ret_cmp, s_ret_chain, s_ret_and, s_ret_or, s_ret_not, s_ret_ite, s_ret_tup, s_ret_lst, s_ret_idx, s_ret_slc, s_ret_call, s_ret_callK, s_ret_blt, s_ret_isk, s_ret_comp, s_app, k_runR, k_runN, for_nil, k_forN, k_forC, k_forB, k_forR, g_nm, g_tp, o_some, noErr_ret, retK, ret_bind, err_bind, bad_bind, draw_bind, getV, slOf, slO, setAll, parT, List.length_cons, List.length_nil, List.map_cons, List.map_nil, List.getElem?_cons_zero, List.getElem?_cons_succ, List.set_cons_zero, List.set_cons_succ, List.cons_append, List.nil_append, List.replicate_succ, List.replicate_zero, lt4]
  have vb : VB ⟨x, min (max v 0) 2000, d5, 1 + d0⟩ := ⟨by show 0 ≤ x; omega, by show x ≤ 400; omega, by show 0 ≤ min (max v 0) 2000; omega, by show min (max v 0) 2000 ≤ 2000; omega, by show 1 ≤ 1 + d0; omega, by show 1 + d0 ≤ 20; omega, p10, by show d5 ≤ 3 * (1 + d0); omega⟩
  refine ⟨fd ++ [⟨x, min (max v 0) 2000, d5, 1 + d0⟩], _, _, _, _, _, _, _, by rw [List.map_append]; rfl, ?_⟩
  obtain ⟨m1, m2, m3, m4, m5, m6, m7⟩ := md
  rw [List.pairwise_cons] at m5
  refine ⟨?_, fun k hk => ?_, ?_, fun k hk y hy => ?_, m5.2, fun y hy => m6 y (List.mem_cons_of_mem _ hy), by rw [List.length_append]; show fd.length + 1 + l'.length ≤ 6; omega⟩
  · obtain ⟨b, t, e, z1, z2⟩ := m1
    exact ⟨b, t ++ [⟨x, min (max v 0) 2000, d5, 1 + d0⟩], by rw [e]; rfl, z1, z2⟩
  · rcases List.mem_append.mp hk with e | e
    · exact m2 k e
    · rw [List.mem_singleton.mp e]
      exact ⟨vb, by show 1 + d0 ≤ width; omega, hx.2⟩
  · rw [List.pairwise_append]
    exact ⟨m3, by simp, fun a ha b hb => by rw [List.mem_singleton.mp hb]; exact m4 a ha x List.mem_cons_self⟩
  · rcases List.mem_append.mp hk with e | e
    · exact m4 k e y (List.mem_cons_of_mem _ hy)
    · rw [List.mem_singleton.mp e]
      exact m5.1 y hy
theorem f17r {n : Nat} {c : Nat → List D → T D} (hc : c = callF tab WH (n + 2)) {top width : Int} (h1 : 1 ≤ top) (h2 : top ≤ 400) (w1 : 1 ≤ width) (w2 : width ≤ 20) :
    (runD c WH d17 [.sta, .int top, .int width]).All0 (fun d => ∃ l, d = scD l ∧ VS l ∧ ∀ k ∈ l, k.r ≤ width ∧ k.s ≤ top) fun _ => False := by
  subst hc
  rw [run_eq rfl]
  have e1 := dr (m := n) (k := width) (by omega) (by omega)
  simp only [d17, startE]
  simp only [e_non, e_bl, e_int, e_str, e_var, e_con, e_bin, e_neg, e_cmp, e_chain, e_and, e_or, e_not, e_ite, e_tup, e_lst, e_idx, e_slc, e_call, e_callK, e_blt, e_isk, b_var, b_cmp, b_chain, b_and, b_or, b_not, b_yes, b_call, b_callK, b_blt, b_isk, a_nil, a_cons, r_nil, r_cons, o_nopart, o_part, i_rng1, i_rng2, i_zip, i_enum, i_cap, i_var, i_blt, i_call, i_tup, i_lst, i_idx, i_slc, q_add, q_sub, q_neg, q_lt, q_le, q_gt, q_ge, q_eqI, q_neI, q_isNN, q_isNT, q_isNI, q_isNL, q_isnNN, q_isnNT, q_isnNI, q_isnNL, q_andT, q_andF, q_orT, q_orF, q_not, q_toB, q_part, q_fzI, q_fzB, q_fzS, q_fzN, q_fzT, q_fzL, q_fzW, q_fzSt, q_fzSc, s_nil, s_cons, k_nx, k_rt, k_bk, k_ct, s_asg, s_asgF, s_asgT, k_asg, s_par, s_expr, s_iff, s_retN, s_raise, s_brk, s_cont, s_pass, s_frz, k_frzO, k_frzV, s_retV, k_retO, k_retV, s_ret_non, s_ret_bl, s_ret_int, s_ret_str, s_ret_con, s_ret_bin, s_ret_neg, s_ret_cmp, s_ret_chain, s_ret_and, s_ret_or, s_ret_not, s_ret_ite, s_ret_tup, s_ret_lst, s_ret_idx, s_ret_slc, s_ret_call, s_ret_callK, s_ret_blt, s_ret_isk, s_ret_comp, s_app, k_runR, k_runN, for_nil, k_forN, k_forC, k_forB, k_forR, g_nm, g_tp, o_some, noErr_ret, retK, ret_bind, err_bind, bad_bind, draw_bind, getV, slOf, slO, setAll, parT, List.length_cons, List.length_nil, List.map_cons, List.map_nil, List.getElem?_cons_zero, List.getElem?_cons_succ, List.set_cons_zero, List.set_cons_succ, List.cons_append, List.nil_append, List.replicate_succ, List.replicate_zero, e1]
  refine fun d0 p0 p1 => ?_
  have q1 := q_mulL (i := 3) (j := 1 + d0) (by decide) (by decide)
  have e2 := dr (m := n) (k := 3 * (1 + d0) + 1) (by omega) (by omega)
  simp only [e_non, e_bl, e_int, e_str, e_var, e_con, e_bin, e_neg, e_cmp, e_chain, e_and, e_or, e_not, e_ite, e_tup, e_lst, e_idx, e_slc, e_call, e_callK, e_blt, e_isk, b_var, b_cmp, b_chain, b_and, b_or, b_not, b_yes, b_call, b_callK, b_blt, b_isk, a_nil, a_cons, r_nil, r_cons, o_nopart, o_part, i_rng1, i_rng2, i_zip, i_enum, i_cap, i_var, i_blt, i_call, i_tup, i_lst, i_idx, i_slc, q_add, q_sub, q_neg, q_lt, q_le, q_gt, q_ge, q_eqI, q_neI, q_isNN, q_isNT, q_isNI, q_isNL, q_isnNN, q_isnNT, q_isnNI, q_isnNL, q_andT, q_andF, q_orT, q_orF, q_not, q_toB, q_part, q_fzI, q_fzB, q_fzS, q_fzN, q_fzT, q_fzL, q_fzW, q_fzSt, q_fzSc, s_nil, s_cons, k_nx, k_rt, k_bk, k_ct, s_asg, s_asgF, s_asgT, k_asg, s_par, s_expr, s_iff, s_retN, s_raise, s_brk, s_cont, s_pass, s_frz, k_frzO, k_frzV, s_retV, k_retO, k_retV, s_ret_non, s_ret_bl, s_ret_int, s_ret_str, s_ret_con, s_ret_bin, s_ret_neg, s_ret_cmp, s_ret_chain, s_ret_and, s_ret_or, s_ret_not, s_ret_ite, s_ret_tup, s_ret_lst, s_ret_idx, s_ret_slc, s_ret_call, s_ret_callK, s_ret_blt, s_ret_isk, s_ret_comp, s_app, k_runR, k_runN, for_nil, k_forN, k_forC, k_forB, k_forR, g_nm, g_tp, o_some, noErr_ret, retK, ret_bind, err_bind, bad_bind, draw_bind, getV, slOf, slO, setAll, parT, List.length_cons, List.length_nil, List.map_cons, List.map_nil, List.getElem?_cons_zero, List.getElem?_cons_succ, List.set_cons_zero, List.set_cons_succ, List.cons_append, List.nil_append, List.replicate_succ, List.replicate_zero, q1, e2]
  refine fun d1 p2 p3 => ?_
  have lt4 : ∀ a b c d : D, lenT [a, b, c, d] (.tup [a, b, c, d]) = .ret (.tup [a, b, c, d]) := fun _ _ _ _ => rfl
  have lt1 : ∀ a : D, lenT [a] (.new [a]) = .ret (.new [a]) := fun _ => rfl
  have lt0 : lenT [] (.new []) = .ret (.new []) := rfl
  have e3 := dr (m := n) (k := 6) (by omega) (by omega)
  simp only [e_non, e_bl, e_int, e_str, e_var, e_con, e_bin, e_neg, e_cmp, e_chain, e_and, e_or, e_not, e_ite, e_tup, e_lst, e_idx, e_slc, e_call, e_callK, e_blt, e_isk, b_var, b_cmp, b_chain, b_and, b_or, b_not, b_yes, b_call, b_callK, b_blt, b_isk, a_nil, a_cons, r_nil, r_cons, o_nopart, o_part, i_rng1, i_rng2, i_zip, i_enum, i_cap, i_var, i_blt, i_call, i_tup, i_lst, i_idx, i_slc, q_add, q_sub, q_neg, q_lt, q_le, q_gt, q_ge, q_eqI, q_neI, q_isNN, q_isNT, q_isNI, q_isNL, q_isnNN, q_isnNT, q_isnNI, q_isnNL, q_andT, q_andF, q_orT, q_orF, q_not, q_toB, q_part, q_fzI, q_fzB, q_fzS, q_fzN, q_fzT, q_fzL, q_fzW, q_fzSt, q_fzSc, s_nil, s_cons, k_nx, k_rt, k_bk, k_ct, s_asg, s_asgF, s_asgT, k_asg, s_par, s_expr, s_iff, s_retN, s_raise, s_brk, s_cont, s_pass, s_frz, k_frzO, k_frzV, s_retV, k_retO, k_retV, s_ret_non, s_ret_bl, s_ret_int, s_ret_str, s_ret_con, s_ret_bin, s_ret_neg, s_ret_cmp, s_ret_chain, s_ret_and, s_ret_or, s_ret_not, s_ret_ite, s_ret_tup, s_ret_lst, s_ret_idx, s_ret_slc, s_ret_call, s_ret_callK, s_ret_blt, s_ret_isk, s_ret_comp, s_app, k_runR, k_runN, for_nil, k_forN, k_forC, k_forB, k_forR, g_nm, g_tp, o_some, noErr_ret, retK, ret_bind, err_bind, bad_bind, draw_bind, getV, slOf, slO, setAll, parT, List.length_cons, List.length_nil, List.map_cons, List.map_nil, List.getElem?_cons_zero, List.getElem?_cons_succ, List.set_cons_zero, List.set_cons_succ, List.cons_append, List.nil_append, List.replicate_succ, List.replicate_zero, s_for, lt4, lt1, lt0, e3]
  refine fun d2 p4 p5 => ?_
  have hr : rng1T (.int d2) = .ret ((rng 0 d2).map D.int) := rng_T (lo := 0) (hi := d2) (by omega) (by omega) (by omega) (by omega)
  have vb : VB ⟨0, 0, d1, 1 + d0⟩ := ⟨(show (0 : Int) ≤ 0 by decide), (show (0 : Int) ≤ 400 by decide), (show (0 : Int) ≤ 0 by decide), (show (0 : Int) ≤ 2000 by decide), by show 1 ≤ 1 + d0; omega, by show 1 + d0 ≤ 20; omega, p2, by show d1 ≤ 3 * (1 + d0); omega⟩
  have L1 := loop17a (n := n) (top := top) h1 h2 (a2 := .val (.int width)) (a3 := .val (.int (1 + d0))) (a6 := .own [.tup [.int 0, .int 0, .int d1, .int (1 + d0)]]) (a8 := .un) (a9 := .un) (a10 := .un) (V := fun _ => False) (rng 0 d2) [.val .sta, .val (.int top), .val (.int width), .val (.int (1 + d0)), .un, .un, .own [.tup [.int 0, .int 0, .int d1, .int (1 + d0)]], .val (.lst []), .un, .un, .un]
    ⟨[], .un, .un, rfl, by simp, (fun s h => by cases h), (by rw [rng_length]; show 0 + (d2 - 0).toNat ≤ 5; omega)⟩
  unfold b17a at L1
  simp only [e_non, e_bl, e_int, e_str, e_var, e_con, e_bin, e_neg, e_cmp, e_chain, e_and, e_or, e_not, e_ite, e_tup, e_lst, e_idx, e_slc, e_call, e_callK, e_blt, e_isk, b_var, b_cmp, b_chain, b_and, b_or, b_not, b_yes, b_call, b_callK, b_blt, b_isk, a_nil, a_cons, r_nil, r_cons, o_nopart, o_part, i_rng1, i_rng2, i_zip, i_enum, i_cap, i_var, i_blt, i_call, i_tup, i_lst, i_idx, i_slc, q_add, q_sub, q_neg, q_lt, q_le, q_gt, q_ge, q_eqI, q_neI, q_isNN, q_isNT, q_isNI, q_isNL, q_isnNN, q_isnNT, q_isnNI, q_isnNL, q_andT, q_andF, q_orT, q_orF, q_not, q_toB, q_part, q_fzI, q_fzB, q_fzS, q_fzN, q_fzT, q_fzL, q_fzW, q_fzSt, q_fzSc, s_nil, s_cons, k_nx, k_rt, k_bk, k_ct, s_asg, s_asgF, s_asgT, k_asg, s_par, s_expr, s_iff, s_retN, s_raise, s_brk, s_cont, s_pass, s_frz, k_frzO, k_frzV, s_retV, k_retO, k_retV, s_ret_non, s_ret_bl, s_ret_int, s_ret_str, s_ret_con, s_ret_bin, s_ret_neg, s_ret_cmp, s_ret_chain, s_ret_and, s_ret_or, s_ret_not, s_ret_ite, s_ret_tup, s_ret_lst, s_ret_idx, s_ret_slc, s_ret_call, s_ret_callK, s_ret_blt, s_ret_isk, s_ret_comp, s_app, k_runR, k_runN, for_nil, k_forN, k_forC, k_forB, k_forR, g_nm, g_tp, o_some, noErr_ret, retK, ret_bind, err_bind, bad_bind, draw_bind, getV, slOf, slO, setAll, parT, List.length_cons, List.length_nil, List.map_cons, List.map_nil, List.getElem?_cons_zero, List.getElem?_cons_succ, List.set_cons_zero, List.set_cons_succ, List.cons_append, List.nil_append, List.replicate_succ, List.replicate_zero, hr]
  rw [bind_assoc', all0_bind]
  refine All0.mono L1 (fun fl q => ?_) fun _ e => e
  cases fl with
  | rt v => exact q.elim
  | bk _ => exact q.elim
  | ct _ => exact q.elim
  | nx r2 =>
    obtain ⟨ss, x4, x5, rfl, nd, hs, hl⟩ := q
    have hso : bltT .sorted [.lst (ss.map D.int)] = .ret (.new ((sortI ss).map D.int)) := by
      show (match seqI (.lst (ss.map D.int)) with | some ns => (if ns.length < 64 then T.ret (D.new ((sortI ns).map D.int)) else T.bad) | none => T.bad) = _
      rw [show seqI (.lst (ss.map D.int)) = some ss from intsD_map ss]
      exact if_pos (by simp at hl; omega)
    have hperm := sort_perm ss
    have hlen : ((sortI ss).map D.int).length ≤ lim := by
      rw [List.length_map, hperm.length_eq]
      show ss.length ≤ 16777216
      simp at hl
      omega
    have fr : frozen (.new ((sortI ss).map D.int)) = some ((sortI ss).map D.int) := rfl
    have L2 := loop17b (n := n) (top := top) (width := width) h1 h2 w1 w2 (a1 := .val (.int top)) (V := fun _ => False) (sortI ss) [.val .sta, .val (.int top), .val (.int width), .val (.int (1 + d0)), x4, x5, .own [.tup [.int 0, .int 0, .int d1, .int (1 + d0)]], .val (.lst (ss.map D.int)), .un, .un, .un]
      ⟨[⟨0, 0, d1, 1 + d0⟩], _, _, _, _, _, _, _, rfl, ⟨⟨_, _, rfl, rfl, rfl⟩, fun k hk => by rw [List.mem_singleton.mp hk]; exact ⟨vb, by show 1 + d0 ≤ width; omega, by show 0 ≤ top; omega⟩, by simp, fun k hk x hx => by
        rw [List.mem_singleton.mp hk]
        have := hs x (hperm.mem_iff.mp hx)
        show 0 < x
        omega, sort_sorted ss nd, fun x hx => hs x (hperm.mem_iff.mp hx), by rw [hperm.length_eq]; show 1 + ss.length ≤ 6; simp at hl; omega⟩⟩
    unfold b17b at L2
    simp only [e_non, e_bl, e_int, e_str, e_var, e_con, e_bin, e_neg, e_cmp, e_chain, e_and, e_or, e_not, e_ite, e_tup, e_lst, e_idx, e_slc, e_call, e_callK, e_blt, e_isk, b_var, b_cmp, b_chain, b_and, b_or, b_not, b_yes, b_call, b_callK, b_blt, b_isk, a_nil, a_cons, r_nil, r_cons, o_nopart, o_part, i_rng1, i_rng2, i_zip, i_enum, i_cap, i_var, i_blt, i_call, i_tup, i_lst, i_idx, i_slc, q_add, q_sub, q_neg, q_lt, q_le, q_gt, q_ge, q_eqI, q_neI, q_isNN, q_isNT, q_isNI, q_isNL, q_isnNN, q_isnNT, q_isnNI, q_isnNL, q_andT, q_andF, q_orT, q_orF, q_not, q_toB, q_part, q_fzI, q_fzB, q_fzS, q_fzN, q_fzT, q_fzL, q_fzW, q_fzSt, q_fzSc, s_nil, s_cons, k_nx, k_rt, k_bk, k_ct, s_asg, s_asgF, s_asgT, k_asg, s_par, s_expr, s_iff, s_retN, s_raise, s_brk, s_cont, s_pass, s_frz, k_frzO, k_frzV, s_retV, k_retO, k_retV, s_ret_non, s_ret_bl, s_ret_int, s_ret_str, s_ret_con, s_ret_bin, s_ret_neg, s_ret_cmp, s_ret_chain, s_ret_and, s_ret_or, s_ret_not, s_ret_ite, s_ret_tup, s_ret_lst, s_ret_idx, s_ret_slc, s_ret_call, s_ret_callK, s_ret_blt, s_ret_isk, s_ret_comp, s_app, k_runR, k_runN, for_nil, k_forN, k_forC, k_forB, k_forR, g_nm, g_tp, o_some, noErr_ret, retK, ret_bind, err_bind, bad_bind, draw_bind, getV, slOf, slO, setAll, parT, List.length_cons, List.length_nil, List.map_cons, List.map_nil, List.getElem?_cons_zero, List.getElem?_cons_succ, List.set_cons_zero, List.set_cons_succ, List.cons_append, List.nil_append, List.replicate_succ, List.replicate_zero, s_for, hso, fr, hlen, if_true]
    rw [bind_assoc', all0_bind]
    refine All0.mono L2 (fun fl q => ?_) fun _ e => e
    cases fl with
    | rt v => exact q.elim
    | bk _ => exact q.elim
    | ct _ => exact q.elim
    | nx r2 =>
      obtain ⟨l, y3, y4, y5, y7, y8, y9, y10, rfl, md⟩ := q
      have tp : bltT .tuple [.bor (l.map brD)] = .ret (scD l) := rfl
      simp only [e_non, e_bl, e_int, e_str, e_var, e_con, e_bin, e_neg, e_cmp, e_chain, e_and, e_or, e_not, e_ite, e_tup, e_lst, e_idx, e_slc, e_call, e_callK, e_blt, e_isk, b_var, b_cmp, b_chain, b_and, b_or, b_not, b_yes, b_call, b_callK, b_blt, b_isk, a_nil, a_cons, r_nil, r_cons, o_nopart, o_part, i_rng1, i_rng2, i_zip, i_enum, i_cap, i_var, i_blt, i_call, i_tup, i_lst, i_idx, i_slc, q_add, q_sub, q_neg, q_lt, q_le, q_gt, q_ge, q_eqI, q_neI, q_isNN, q_isNT, q_isNI, q_isNL, q_isnNN, q_isnNT, q_isnNI, q_isnNL, q_andT, q_andF, q_orT, q_orF, q_not, q_toB, q_part, q_fzI, q_fzB, q_fzS, q_fzN, q_fzT, q_fzL, q_fzW, q_fzSt, q_fzSc, s_nil, s_cons, k_nx, k_rt, k_bk, k_ct, s_asg, s_asgF, s_asgT, k_asg, s_par, s_expr, s_iff, s_retN, s_raise, s_brk, s_cont, s_pass, s_frz, k_frzO, k_frzV, s_retV, k_retO, k_retV, s_ret_non, s_ret_bl, s_ret_int, s_ret_str, s_ret_con, s_ret_bin, s_ret_neg, s_ret_cmp, s_ret_chain, s_ret_and, s_ret_or, s_ret_not, s_ret_ite, s_ret_tup, s_ret_lst, s_ret_idx, s_ret_slc, s_ret_call, s_ret_callK, s_ret_blt, s_ret_isk, s_ret_comp, s_app, k_runR, k_runN, for_nil, k_forN, k_forC, k_forB, k_forR, g_nm, g_tp, o_some, noErr_ret, retK, ret_bind, err_bind, bad_bind, draw_bind, getV, slOf, slO, setAll, parT, List.length_cons, List.length_nil, List.map_cons, List.map_nil, List.getElem?_cons_zero, List.getElem?_cons_succ, List.set_cons_zero, List.set_cons_succ, List.cons_append, List.nil_append, List.replicate_succ, List.replicate_zero, tp]
      exact ⟨l, rfl, ⟨by have := md.len; simp at this; omega, fun k hk => (md.vb k hk).1, md.inc, md.hd⟩, fun k hk => (md.vb k hk).2⟩
theorem f17 {n : Nat} {top width : Int} (h1 : 1 ≤ top) (h2 : top ≤ 400) (w1 : 1 ≤ width) (w2 : width ≤ 20) :
    (callF tab WH (n + 3) 17 [.sta, .int top, .int width]).All0 (fun d => ∃ l, d = scD l ∧ VS l ∧ ∀ k ∈ l, k.r ≤ width ∧ k.s ≤ top) fun _ => False := by
  have e : callF tab WH (n + 3) 17 [.sta, .int top, .int width] = runD (callF tab WH (n + 2)) WH d17 [.sta, .int top, .int width] := rfl
  rw [e]
  generalize hc : callF tab WH (n + 2) = c
  exact f17r hc.symm h1 h2 w1 w2
end LW
end
section
set_option maxHeartbeats 1000000
namespace LW
open PySem PV
theorem idx_ints {xs : List Int} {d : Int} (h0 : 0 ≤ d) (h1 : d < xs.length) : ∃ v ∈ xs, idxT (.lst (xs.map D.int)) (.int d) = .ret (.int v) := by
  obtain ⟨i, rfl⟩ := Int.eq_ofNat_of_zero_le h0
  have hi : i < xs.length := by omega
  refine ⟨xs[i], List.getElem_mem hi, ?_⟩
  show ofO (L2.atI (xs.map D.int) (i : Int)) = _
  rw [idx_nat (i := i) (x := .int xs[i]) (by rw [List.getElem?_map, List.getElem?_eq_getElem hi]; rfl)]
  rfl
theorem f15 {n : Nat} {xs : List Int} (h0 : 0 < xs.length) (h1 : xs.length < 1000) : (callF tab WH (n + 3) 15 [.sta, .lst (xs.map D.int)]).All0 (fun d => ∃ v ∈ xs, d = .int v) fun _ => False := by
  show (runD (callF tab WH (n + 2)) WH d15 _).All0 _ _
  rw [run_eq rfl]
  have hl : bltT .len [.lst (xs.map D.int)] = .ret (.int xs.length) := by
    show T.ret (D.int ((xs.map D.int).length : Nat)) = _
    rw [List.length_map]
  have e1 := dr (m := n) (k := xs.length) (by omega) (by omega)
  simp only [d15, startE]
  simp only [e_non, e_bl, e_int, e_str, e_var, e_con, e_bin, e_neg, e_cmp, e_chain, e_and, e_or, e_not, e_ite, e_tup, e_lst, e_idx, e_slc, e_call, e_callK, e_blt, e_isk, b_var, b_cmp, b_chain, b_and, b_or, b_not, b_yes, b_call, b_callK, b_blt, b_isk, a_nil, a_cons, r_nil, r_cons, o_nopart, o_part, i_rng1, i_rng2, i_zip, i_enum, i_cap, i_var, i_blt, i_call, i_tup, i_lst, i_idx, i_slc, q_add, q_sub, q_neg, q_lt, q_le, q_gt, q_ge, q_eqI, q_neI, q_isNN, q_isNT, q_isNI, q_isNL, q_isnNN, q_isnNT, q_isnNI, q_isnNL, q_andT, q_andF, q_orT, q_orF, q_not, q_toB, q_part, q_fzI, q_fzB, q_fzS, q_fzN, q_fzT, q_fzL, q_fzW, q_fzSt, q_fzSc, s_nil, s_cons, k_nx, k_rt, k_bk, k_ct, s_asg, s_asgF, s_asgT, k_asg, s_par, s_expr, s_iff, s_retN, s_raise, s_brk, s_cont, s_pass, s_frz, k_frzO, k_frzV, s_retV, k_retO, k_retV, s_ret_non, s_ret_bl, s_ret_int, s_ret_str, s_ret_con, s_ret_bin, s_ret_neg, s_ret_cmp, s_ret_chain, s_ret_and, s_ret_or, s_ret_not, s_ret_ite, s_ret_tup, s_ret_lst, s_ret_idx, s_ret_slc, s_ret_call, s_ret_callK, s_ret_blt, s_ret_isk, s_ret_comp, s_app, k_runR, k_runN, for_nil, k_forN, k_forC, k_forB, k_forR, g_nm, g_tp, o_some, noErr_ret, Yes, retK, ret_bind, err_bind, bad_bind, draw_bind, getV, slOf, slO, setAll, parT, List.length_cons, List.length_nil, List.map_cons, List.map_nil, List.getElem?_cons_zero, List.getElem?_cons_succ, List.set_cons_zero, List.set_cons_succ, List.cons_append, List.nil_append, List.replicate_succ, List.replicate_zero, hl, e1]
  refine fun d d0 d1 => ?_
  obtain ⟨v, hv, ev⟩ := idx_ints d0 d1
  simp only [e_non, e_bl, e_int, e_str, e_var, e_con, e_bin, e_neg, e_cmp, e_chain, e_and, e_or, e_not, e_ite, e_tup, e_lst, e_idx, e_slc, e_call, e_callK, e_blt, e_isk, b_var, b_cmp, b_chain, b_and, b_or, b_not, b_yes, b_call, b_callK, b_blt, b_isk, a_nil, a_cons, r_nil, r_cons, o_nopart, o_part, i_rng1, i_rng2, i_zip, i_enum, i_cap, i_var, i_blt, i_call, i_tup, i_lst, i_idx, i_slc, q_add, q_sub, q_neg, q_lt, q_le, q_gt, q_ge, q_eqI, q_neI, q_isNN, q_isNT, q_isNI, q_isNL, q_isnNN, q_isnNT, q_isnNI, q_isnNL, q_andT, q_andF, q_orT, q_orF, q_not, q_toB, q_part, q_fzI, q_fzB, q_fzS, q_fzN, q_fzT, q_fzL, q_fzW, q_fzSt, q_fzSc, s_nil, s_cons, k_nx, k_rt, k_bk, k_ct, s_asg, s_asgF, s_asgT, k_asg, s_par, s_expr, s_iff, s_retN, s_raise, s_brk, s_cont, s_pass, s_frz, k_frzO, k_frzV, s_retV, k_retO, k_retV, s_ret_non, s_ret_bl, s_ret_int, s_ret_str, s_ret_con, s_ret_bin, s_ret_neg, s_ret_cmp, s_ret_chain, s_ret_and, s_ret_or, s_ret_not, s_ret_ite, s_ret_tup, s_ret_lst, s_ret_idx, s_ret_slc, s_ret_call, s_ret_callK, s_ret_blt, s_ret_isk, s_ret_comp, s_app, k_runR, k_runN, for_nil, k_forN, k_forC, k_forB, k_forR, g_nm, g_tp, o_some, noErr_ret, Yes, retK, ret_bind, err_bind, bad_bind, draw_bind, getV, slOf, slO, setAll, parT, List.length_cons, List.length_nil, List.map_cons, List.map_nil, List.getElem?_cons_zero, List.getElem?_cons_succ, List.set_cons_zero, List.set_cons_succ, List.cons_append, List.nil_append, List.replicate_succ, List.replicate_zero, ev]
  exact ⟨v, hv, rfl⟩
theorem pw4 : binT .pow (.int 10) (.int 4) = .ret (.int 10000) := by
  show (if (0:Int) ≤ 4 ∧ (4:Int) ≤ 1000 ∧ (10 : Int).natAbs < 2 ^ 64 then T.ret (D.int ((10:Int) ^ (4:Int).toNat)) else T.bad) = _
  rw [if_pos (by decide)]
  rfl
theorem pw17 : binT .pow (.int 10) (.int 17) = .ret (.int 100000000000000000) := by
  show (if (0:Int) ≤ 17 ∧ (17:Int) ≤ 1000 ∧ (10 : Int).natAbs < 2 ^ 64 then T.ret (D.int ((10:Int) ^ (17:Int).toNat)) else T.bad) = _
  rw [if_pos (by decide)]
  rfl
theorem pw9 : binT .pow (.int 10) (.int 9) = .ret (.int 1000000000) := by
  show (if (0:Int) ≤ 9 ∧ (9:Int) ≤ 1000 ∧ (10 : Int).natAbs < 2 ^ 64 then T.ret (D.int ((10:Int) ^ (9:Int).toNat)) else T.bad) = _
  rw [if_pos (by decide)]
  rfl
def b22 : S := (.cons (.asgF 5 (.bin .add (.int 1) (.call 0 (.cons (.var 0) (.cons (.call 15 (.cons (.var 0) (.cons (.lst (.cons (.int 9) (.cons (.int 60) (.cons (.bin .pow (.int 10) (.int 4)) (.cons (.bin .pow (.int 10) (.int 17)) .nil))))) .nil))) .nil))))) (.cons (.asgF 6 (.bin .add (.int 1) (.call 0 (.cons (.var 0) (.cons (.call 15 (.cons (.var 0) (.cons (.lst (.cons (.int 9) (.cons (.int 60) (.cons (.bin .pow (.int 10) (.int 4)) (.cons (.bin .pow (.int 10) (.int 17)) .nil))))) .nil))) .nil))))) (.cons (.asgF 7 (.bin .sub (.bin .add (.call 16 (.cons (.var 1) (.cons (.var 5) .nil))) (.call 16 (.cons (.var 1) (.cons (.var 6) .nil)))) (.call 16 (.cons (.var 1) (.cons (.bin .add (.var 5) (.var 6)) .nil))))) (.cons (.iff (.cmp .gt (.bin .mul (.var 3) (.var 7)) (.idx (.var 2) (.int 0))) (.cons (.ret (.bl false)) .nil) .nil) .nil))))
theorem step22 {n : Nat} {l : List Br} (hv : ∀ k ∈ l, VR k) {sg M : Int} {x : Int × Int} (s1 : -100 < sg) (s2 : sg < 100) (h : ∀ a b, 1 ≤ a → 1 ≤ b → sg * gn (pay l) a b ≤ M) (t : Int) (r : PV.Env) (hr : ∃ x4 x5 x6 x7, r = [.val .sta, .val (scD l), .val (mostD M x), .val (.int sg), x4, x5, x6, x7]) :
    ∃ r1, bindTg (.nm 4) (.int t) r = .ret r1 ∧ (ex (callF tab WH (n + 3)) WH b22 r1).All0 (goP (fun r => ∃ x4 x5 x6 x7, r = [.val .sta, .val (scD l), .val (mostD M x), .val (.int sg), x4, x5, x6, x7]) (fun _ => False)) fun _ => False := by
  obtain ⟨x4, x5, x6, x7, rfl⟩ := hr
  refine ⟨_, rfl, ?_⟩
  have lt4 : ∀ a b c d : D, lenT [a, b, c, d] (.new [a, b, c, d]) = .ret (.new [a, b, c, d]) := fun _ _ _ _ => rfl
  have p15 := f15 (n := n) (xs := [9, 60, 10000, 100000000000000000]) (by decide) (by decide)
  have pos : ∀ v ∈ [(9 : Int), 60, 10000, 100000000000000000], 0 < v ∧ v < 2 ^ 64 := by decide
  have fz1 : fz (scD l) = .ret (scD l) := rfl
  unfold b22
  simp only [e_non, e_bl, e_int, e_str, e_var, e_con, e_bin, e_neg, e_cmp, e_chain, e_and, e_or, e_not, e_ite, e_tup, e_lst, e_idx, e_slc, e_call, e_callK, e_blt, e_isk, b_var, b_cmp, b_chain, b_and, b_or, b_not, b_yes, b_call, b_callK, b_blt, b_isk, a_nil, a_cons, r_nil, r_cons, o_nopart, o_part, i_rng1, i_rng2, i_zip, i_enum, i_cap, i_var, i_blt, i_call, i_tup, i_lst, i_idx, i_slc, q_add, q_sub, q_neg, q_lt, q_le, q_gt, q_ge, q_eqI, q_neI, q_isNN, q_isNT, q_isNI, q_isNL, q_isnNN, q_isnNT, q_isnNI, q_isnNL, q_andT, q_andF, q_orT, q_orF, q_not, q_toB, q_part, q_fzI, q_fzB, q_fzS, q_fzN, q_fzT, q_fzL, q_fzW, q_fzSt, q_fzSc, s_nil, s_cons, k_nx, k_rt, k_bk, k_ct, s_asg, s_asgF, s_asgT, k_asg, s_par, s_expr, s_iff, s_retN, s_raise, s_brk, s_cont, s_pass, s_frz, k_frzO, k_frzV, s_retV, k_retO, k_retV, s_ret_non, s_ret_bl, s_ret_int, s_ret_str, s_ret_con, s_ret_bin, s_ret_neg, s_ret_cmp, s_ret_chain, s_ret_and, s_ret_or, s_ret_not, s_ret_ite, s_ret_tup, s_ret_lst, s_ret_idx, s_ret_slc, s_ret_call, s_ret_callK, s_ret_blt, s_ret_isk, s_ret_comp, s_app, k_runR, k_runN, for_nil, k_forN, k_forC, k_forB, k_forR, g_nm, g_tp, o_some, noErr_ret, Yes, retK, ret_bind, err_bind, bad_bind, draw_bind, getV, slOf, slO, setAll, parT, List.length_cons, List.length_nil, List.map_cons, List.map_nil, List.getElem?_cons_zero, List.getElem?_cons_succ, List.set_cons_zero, List.set_cons_succ, List.cons_append, List.nil_append, List.replicate_succ, List.replicate_zero, pw4, pw17, lt4, bind_assoc']
  rw [all0_bind]
  refine All0.mono p15 (fun d hd => ?_) fun _ e => e
  obtain ⟨v, hv1, rfl⟩ := hd
  have pv := pos v hv1
  simp only [e_non, e_bl, e_int, e_str, e_var, e_con, e_bin, e_neg, e_cmp, e_chain, e_and, e_or, e_not, e_ite, e_tup, e_lst, e_idx, e_slc, e_call, e_callK, e_blt, e_isk, b_var, b_cmp, b_chain, b_and, b_or, b_not, b_yes, b_call, b_callK, b_blt, b_isk, a_nil, a_cons, r_nil, r_cons, o_nopart, o_part, i_rng1, i_rng2, i_zip, i_enum, i_cap, i_var, i_blt, i_call, i_tup, i_lst, i_idx, i_slc, q_add, q_sub, q_neg, q_lt, q_le, q_gt, q_ge, q_eqI, q_neI, q_isNN, q_isNT, q_isNI, q_isNL, q_isnNN, q_isnNT, q_isnNI, q_isnNL, q_andT, q_andF, q_orT, q_orF, q_not, q_toB, q_part, q_fzI, q_fzB, q_fzS, q_fzN, q_fzT, q_fzL, q_fzW, q_fzSt, q_fzSc, s_nil, s_cons, k_nx, k_rt, k_bk, k_ct, s_asg, s_asgF, s_asgT, k_asg, s_par, s_expr, s_iff, s_retN, s_raise, s_brk, s_cont, s_pass, s_frz, k_frzO, k_frzV, s_retV, k_retO, k_retV, s_ret_non, s_ret_bl, s_ret_int, s_ret_str, s_ret_con, s_ret_bin, s_ret_neg, s_ret_cmp, s_ret_chain, s_ret_and, s_ret_or, s_ret_not, s_ret_ite, s_ret_tup, s_ret_lst, s_ret_idx, s_ret_slc, s_ret_call, s_ret_callK, s_ret_blt, s_ret_isk, s_ret_comp, s_app, k_runR, k_runN, for_nil, k_forN, k_forC, k_forB, k_forR, g_nm, g_tp, o_some, noErr_ret, Yes, retK, ret_bind, err_bind, bad_bind, draw_bind, getV, slOf, slO, setAll, parT, List.length_cons, List.length_nil, List.map_cons, List.map_nil, List.getElem?_cons_zero, List.getElem?_cons_succ, List.set_cons_zero, List.set_cons_succ, List.cons_append, List.nil_append, List.replicate_succ, List.replicate_zero, dr (m := n + 1) (k := v) pv.1 pv.2, bind_assoc']
  refine fun a a0 a1 => ?_
  simp only [e_non, e_bl, e_int, e_str, e_var, e_con, e_bin, e_neg, e_cmp, e_chain, e_and, e_or, e_not, e_ite, e_tup, e_lst, e_idx, e_slc, e_call, e_callK, e_blt, e_isk, b_var, b_cmp, b_chain, b_and, b_or, b_not, b_yes, b_call, b_callK, b_blt, b_isk, a_nil, a_cons, r_nil, r_cons, o_nopart, o_part, i_rng1, i_rng2, i_zip, i_enum, i_cap, i_var, i_blt, i_call, i_tup, i_lst, i_idx, i_slc, q_add, q_sub, q_neg, q_lt, q_le, q_gt, q_ge, q_eqI, q_neI, q_isNN, q_isNT, q_isNI, q_isNL, q_isnNN, q_isnNT, q_isnNI, q_isnNL, q_andT, q_andF, q_orT, q_orF, q_not, q_toB, q_part, q_fzI, q_fzB, q_fzS, q_fzN, q_fzT, q_fzL, q_fzW, q_fzSt, q_fzSc, s_nil, s_cons, k_nx, k_rt, k_bk, k_ct, s_asg, s_asgF, s_asgT, k_asg, s_par, s_expr, s_iff, s_retN, s_raise, s_brk, s_cont, s_pass, s_frz, k_frzO, k_frzV, s_retV, k_retO, k_retV, s_ret_non, s_ret_bl, s_ret_int, s_ret_str, s_ret_con, s_ret_bin, s_ret_neg, s_ret_cmp, s_ret_chain, s_ret_and, s_ret_or, s_ret_not, s_ret_ite, s_ret_tup, s_ret_lst, s_ret_idx, s_ret_slc, s_ret_call, s_ret_callK, s_ret_blt, s_ret_isk, s_ret_comp, s_app, k_runR, k_runN, for_nil, k_forN, k_forC, k_forB, k_forR, g_nm, g_tp, o_some, noErr_ret, Yes, retK, ret_bind, err_bind, bad_bind, draw_bind, getV, slOf, slO, setAll, parT, List.length_cons, List.length_nil, List.map_cons, List.map_nil, List.getElem?_cons_zero, List.getElem?_cons_succ, List.set_cons_zero, List.set_cons_succ, List.cons_append, List.nil_append, List.replicate_succ, List.replicate_zero, pw4, pw17, lt4, bind_assoc']
  rw [all0_bind]
  refine All0.mono p15 (fun d hd => ?_) fun _ e => e
  obtain ⟨w, hw1, rfl⟩ := hd
  have pw := pos w hw1
  simp only [e_non, e_bl, e_int, e_str, e_var, e_con, e_bin, e_neg, e_cmp, e_chain, e_and, e_or, e_not, e_ite, e_tup, e_lst, e_idx, e_slc, e_call, e_callK, e_blt, e_isk, b_var, b_cmp, b_chain, b_and, b_or, b_not, b_yes, b_call, b_callK, b_blt, b_isk, a_nil, a_cons, r_nil, r_cons, o_nopart, o_part, i_rng1, i_rng2, i_zip, i_enum, i_cap, i_var, i_blt, i_call, i_tup, i_lst, i_idx, i_slc, q_add, q_sub, q_neg, q_lt, q_le, q_gt, q_ge, q_eqI, q_neI, q_isNN, q_isNT, q_isNI, q_isNL, q_isnNN, q_isnNT, q_isnNI, q_isnNL, q_andT, q_andF, q_orT, q_orF, q_not, q_toB, q_part, q_fzI, q_fzB, q_fzS, q_fzN, q_fzT, q_fzL, q_fzW, q_fzSt, q_fzSc, s_nil, s_cons, k_nx, k_rt, k_bk, k_ct, s_asg, s_asgF, s_asgT, k_asg, s_par, s_expr, s_iff, s_retN, s_raise, s_brk, s_cont, s_pass, s_frz, k_frzO, k_frzV, s_retV, k_retO, k_retV, s_ret_non, s_ret_bl, s_ret_int, s_ret_str, s_ret_con, s_ret_bin, s_ret_neg, s_ret_cmp, s_ret_chain, s_ret_and, s_ret_or, s_ret_not, s_ret_ite, s_ret_tup, s_ret_lst, s_ret_idx, s_ret_slc, s_ret_call, s_ret_callK, s_ret_blt, s_ret_isk, s_ret_comp, s_app, k_runR, k_runN, for_nil, k_forN, k_forC, k_forB, k_forR, g_nm, g_tp, o_some, noErr_ret, Yes, retK, ret_bind, err_bind, bad_bind, draw_bind, getV, slOf, slO, setAll, parT, List.length_cons, List.length_nil, List.map_cons, List.map_nil, List.getElem?_cons_zero, List.getElem?_cons_succ, List.set_cons_zero, List.set_cons_succ, List.cons_append, List.nil_append, List.replicate_succ, List.replicate_zero, dr (m := n + 1) (k := w) pw.1 pw.2, bind_assoc']
  refine fun b b0 b1 => ?_
  have g1 := f16 (n := n + 2) (l := l) (a := 1 + a) hv
  have g2 := f16 (n := n + 2) (l := l) (a := 1 + b) hv
  have g3 := f16 (n := n + 2) (l := l) (a := 1 + a + (1 + b)) hv
  have q1 := q_mulL (i := sg) (j := pay l (1 + a) + pay l (1 + b) - pay l (1 + a + (1 + b))) (by omega) (by omega)
  have ix : ∀ b c : D, idxT (.tup [.int M, b, c]) (.int 0) = .ret (.int M) := fun _ _ => rfl
  have hh : ¬ M < sg * (pay l (1 + a) + pay l (1 + b) - pay l (1 + a + (1 + b))) := by
    have := h (1 + a) (1 + b) (by omega) (by omega)
    unfold gn at this
    omega
  simp only [e_non, e_bl, e_int, e_str, e_var, e_con, e_bin, e_neg, e_cmp, e_chain, e_and, e_or, e_not, e_ite, e_tup, e_lst, e_idx, e_slc, e_call, e_callK, e_blt, e_isk, b_var, b_cmp, b_chain, b_and, b_or, b_not, b_yes, b_call, b_callK, b_blt, b_isk, a_nil, a_cons, r_nil, r_cons, o_nopart, o_part, i_rng1, i_rng2, i_zip, i_enum, i_cap, i_var, i_blt, i_call, i_tup, i_lst, i_idx, i_slc, q_add, q_sub, q_neg, q_lt, q_le, q_gt, q_ge, q_eqI, q_neI, q_isNN, q_isNT, q_isNI, q_isNL, q_isnNN, q_isnNT, q_isnNI, q_isnNL, q_andT, q_andF, q_orT, q_orF, q_not, q_toB, q_part, q_fzI, q_fzB, q_fzS, q_fzN, q_fzT, q_fzL, q_fzW, q_fzSt, q_fzSc, s_nil, s_cons, k_nx, k_rt, k_bk, k_ct, s_asg, s_asgF, s_asgT, k_asg, s_par, s_expr, s_iff, s_retN, s_raise, s_brk, s_cont, s_pass, s_frz, k_frzO, k_frzV, s_retV, k_retO, k_retV, s_ret_non, s_ret_bl, s_ret_int, s_ret_str, s_ret_con, s_ret_bin, s_ret_neg, s_ret_cmp, s_ret_chain, s_ret_and, s_ret_or, s_ret_not, s_ret_ite, s_ret_tup, s_ret_lst, s_ret_idx, s_ret_slc, s_ret_call, s_ret_callK, s_ret_blt, s_ret_isk, s_ret_comp, s_app, k_runR, k_runN, for_nil, k_forN, k_forC, k_forB, k_forR, g_nm, g_tp, o_some, noErr_ret, Yes, retK, ret_bind, err_bind, bad_bind, draw_bind, getV, slOf, slO, setAll, parT, List.length_cons, List.length_nil, List.map_cons, List.map_nil, List.getElem?_cons_zero, List.getElem?_cons_succ, List.set_cons_zero, List.set_cons_succ, List.cons_append, List.nil_append, List.replicate_succ, List.replicate_zero, fz1, g1, g2, g3, q1, mostD, ix, hh, decide_false, Bool.false_eq_true, if_false]
  exact ⟨_, _, _, _, rfl⟩
theorem f22r {n : Nat} {c : Nat → List D → T D} (hc : c = callF tab WH (n + 3)) {l : List Br} (hv : ∀ k ∈ l, VR k) {sg M : Int} {x : Int × Int} (s1 : -100 < sg) (s2 : sg < 100) (h : ∀ a b, 1 ≤ a → 1 ≤ b → sg * gn (pay l) a b ≤ M) :
    Yes (fun d => d = .bl true) (runD c WH d22 [.sta, scD l, mostD M x, .int sg]) := by
  subst hc
  constructor
  rw [run_eq rfl]
  have hr : rng1T (.int 12) = .ret ((rng 0 12).map D.int) := rng_T (lo := 0) (hi := 12) (by decide) (by decide) (by decide) (by decide)
  generalize rng 0 12 = ts at hr
  have L := for_all (set := bindTg (.nm 4)) (body := ex (callF tab WH (n + 3)) WH b22) (g := D.int) (Inv := fun _ r => ∃ x4 x5 x6 x7, r = [.val .sta, .val (scD l), .val (mostD M x), .val (.int sg), x4, x5, x6, x7]) (V := fun _ => False) (E := fun _ => False) ts (fun t l' r hr => step22 hv s1 s2 h t r hr) [.val .sta, .val (scD l), .val (mostD M x), .val (.int sg), .un, .un, .un, .un] ⟨_, _, _, _, rfl⟩
  unfold b22 at L
  simp only [d22, startE]
  simp only [e_non, e_bl, e_int, e_str, e_var, e_con, e_bin, e_neg, e_cmp, e_chain, e_and, e_or, e_not, e_ite, e_tup, e_lst, e_idx, e_slc, e_call, e_callK, e_blt, e_isk, b_var, b_cmp, b_chain, b_and, b_or, b_not, b_yes, b_call, b_callK, b_blt, b_isk, a_nil, a_cons, r_nil, r_cons, o_nopart, o_part, i_rng1, i_rng2, i_zip, i_enum, i_cap, i_var, i_blt, i_call, i_tup, i_lst, i_idx, i_slc, q_add, q_sub, q_neg, q_lt, q_le, q_gt, q_ge, q_eqI, q_neI, q_isNN, q_isNT, q_isNI, q_isNL, q_isnNN, q_isnNT, q_isnNI, q_isnNL, q_andT, q_andF, q_orT, q_orF, q_not, q_toB, q_part, q_fzI, q_fzB, q_fzS, q_fzN, q_fzT, q_fzL, q_fzW, q_fzSt, q_fzSc, s_nil, s_cons, k_nx, k_rt, k_bk, k_ct, s_asg, s_asgF, s_asgT, k_asg, s_par, s_expr, s_iff, s_retN, s_raise, s_brk, s_cont, s_pass, s_frz, k_frzO, k_frzV, s_retV, k_retO, k_retV, s_ret_non, s_ret_bl, s_ret_int, s_ret_str, s_ret_con, s_ret_bin, s_ret_neg, s_ret_cmp, s_ret_chain, s_ret_and, s_ret_or, s_ret_not, s_ret_ite, s_ret_tup, s_ret_lst, s_ret_idx, s_ret_slc, s_ret_call, s_ret_callK, s_ret_blt, s_ret_isk, s_ret_comp, s_app, k_runR, k_runN, for_nil, k_forN, k_forC, k_forB, k_forR, g_nm, g_tp, o_some, noErr_ret, Yes, retK, ret_bind, err_bind, bad_bind, draw_bind, getV, slOf, slO, setAll, parT, List.length_cons, List.length_nil, List.map_cons, List.map_nil, List.getElem?_cons_zero, List.getElem?_cons_succ, List.set_cons_zero, List.set_cons_succ, List.cons_append, List.nil_append, List.replicate_succ, List.replicate_zero, s_for, hr]
  rw [bind_assoc', all0_bind]
  refine All0.mono L (fun fl q => ?_) fun _ e => e
  cases fl with
  | nx r =>
    obtain ⟨x4, x5, x6, x7, rfl⟩ := q
    simp only [e_non, e_bl, e_int, e_str, e_var, e_con, e_bin, e_neg, e_cmp, e_chain, e_and, e_or, e_not, e_ite, e_tup, e_lst, e_idx, e_slc, e_call, e_callK, e_blt, e_isk, b_var, b_cmp, b_chain, b_and, b_or, b_not, b_yes, b_call, b_callK, b_blt, b_isk, a_nil, a_cons, r_nil, r_cons, o_nopart, o_part, i_rng1, i_rng2, i_zip, i_enum, i_cap, i_var, i_blt, i_call, i_tup, i_lst, i_idx, i_slc, q_add, q_sub, q_neg, q_lt, q_le, q_gt, q_ge, q_eqI, q_neI, q_isNN, q_isNT, q_isNI, q_isNL, q_isnNN, q_isnNT, q_isnNI, q_isnNL, q_andT, q_andF, q_orT, q_orF, q_not, q_toB, q_part, q_fzI, q_fzB, q_fzS, q_fzN, q_fzT, q_fzL, q_fzW, q_fzSt, q_fzSc, s_nil, s_cons, k_nx, k_rt, k_bk, k_ct, s_asg, s_asgF, s_asgT, k_asg, s_par, s_expr, s_iff, s_retN, s_raise, s_brk, s_cont, s_pass, s_frz, k_frzO, k_frzV, s_retV, k_retO, k_retV, s_ret_non, s_ret_bl, s_ret_int, s_ret_str, s_ret_con, s_ret_bin, s_ret_neg, s_ret_cmp, s_ret_chain, s_ret_and, s_ret_or, s_ret_not, s_ret_ite, s_ret_tup, s_ret_lst, s_ret_idx, s_ret_slc, s_ret_call, s_ret_callK, s_ret_blt, s_ret_isk, s_ret_comp, s_app, k_runR, k_runN, for_nil, k_forN, k_forC, k_forB, k_forR, g_nm, g_tp, o_some, noErr_ret, Yes, retK, ret_bind, err_bind, bad_bind, draw_bind, getV, slOf, slO, setAll, parT, List.length_cons, List.length_nil, List.map_cons, List.map_nil, List.getElem?_cons_zero, List.getElem?_cons_succ, List.set_cons_zero, List.set_cons_succ, List.cons_append, List.nil_append, List.replicate_succ, List.replicate_zero]
    rfl
  | rt v => exact q.elim
  | bk _ => exact q.elim
  | ct _ => exact q.elim
theorem sum_new {ns : List Int} : bltT .sum [.new (ns.map D.int)] = .ret (.int ns.sum) ∧ bltT .sum [.lst (ns.map D.int)] = .ret (.int ns.sum) := by
  constructor
  · show (match (items (.new (ns.map D.int))).bind intsD with | some ns => T.ret (D.int ns.sum) | none => T.bad) = _
    rw [show (items (.new (ns.map D.int))).bind intsD = some ns from intsD_map ns]
  · show (match (items (.lst (ns.map D.int))).bind intsD with | some ns => T.ret (D.int ns.sum) | none => T.bad) = _
    rw [show (items (.lst (ns.map D.int))).bind intsD = some ns from intsD_map ns]
theorem ints_of {ys : List D} (h : ∀ y ∈ ys, ∃ v : Int, y = .int v ∧ 1 ≤ v) : ∃ ns : List Int, ys = ns.map D.int ∧ ∀ v ∈ ns, 1 ≤ v := by
  induction ys with
  | nil => exact ⟨[], rfl, fun _ h => by cases h⟩
  | cons y ys ih =>
    obtain ⟨v, rfl, hv⟩ := h y List.mem_cons_self
    obtain ⟨ns, rfl, hn⟩ := ih fun z hz => h z (List.mem_cons_of_mem _ hz)
    refine ⟨v :: ns, rfl, fun w hw => ?_⟩
    rcases List.mem_cons.mp hw with e | e
    · rw [e]; exact hv
    · exact hn w e
def b23 : S := (.cons (.asgF 3 (.comp (.nm 4) (.rng1 (.bin .add (.int 1) (.call 0 (.cons (.var 0) (.cons (.int 9) .nil))))) .yes (.bin .add (.int 1) (.call 0 (.cons (.var 0) (.cons (.call 15 (.cons (.var 0) (.cons (.lst (.cons (.int 5) (.cons (.int 20) (.cons (.bin .pow (.int 10) (.int 9)) .nil)))) .nil))) .nil)))) [("more", 4)])) (.cons (.iff (.cmp .gt (.blt .sum (.cons (.comp (.nm 5) (.var 3) .yes (.call 16 (.cons (.var 1) (.cons (.var 5) .nil))) [("part", 5)]) .nil)) (.call 16 (.cons (.var 1) (.cons (.blt .sum (.cons (.var 3) .nil)) .nil)))) (.cons (.ret (.bl false)) .nil) .nil) .nil))
theorem step23 {n : Nat} {l : List Br} (hv : ∀ k ∈ l, VR k) (h : ∀ a b, 1 ≤ a → 1 ≤ b → gn (pay l) a b ≤ 0) (t : Int) (r : PV.Env) (hr : ∃ x2 x3 x4 x5, r = [.val .sta, .val (scD l), x2, x3, x4, x5]) :
    ∃ r1, bindTg (.nm 2) (.int t) r = .ret r1 ∧ (ex (callF tab WH (n + 3)) WH b23 r1).All0 (goP (fun r => ∃ x2 x3 x4 x5, r = [.val .sta, .val (scD l), x2, x3, x4, x5]) (fun _ => False)) fun _ => False := by
  obtain ⟨x2, x3, x4, x5, rfl⟩ := hr
  refine ⟨_, rfl, ?_⟩
  have lt3 : ∀ a b c : D, lenT [a, b, c] (.new [a, b, c]) = .ret (.new [a, b, c]) := fun _ _ _ => rfl
  have p15 := f15 (n := n) (xs := [5, 20, 1000000000]) (by decide) (by decide)
  have pos : ∀ v ∈ [(5 : Int), 20, 1000000000], 0 < v ∧ v < 2 ^ 64 := by decide
  have fz1 : fz (scD l) = .ret (scD l) := rfl
  unfold b23
  simp only [e_non, e_bl, e_int, e_str, e_var, e_con, e_bin, e_neg, e_cmp, e_chain, e_and, e_or, e_not, e_ite, e_tup, e_lst, e_idx, e_slc, e_call, e_callK, e_blt, e_isk, b_var, b_cmp, b_chain, b_and, b_or, b_not, b_yes, b_call, b_callK, b_blt, b_isk, a_nil, a_cons, r_nil, r_cons, o_nopart, o_part, i_rng1, i_rng2, i_zip, i_enum, i_cap, i_var, i_blt, i_call, i_tup, i_lst, i_idx, i_slc, q_add, q_sub, q_neg, q_lt, q_le, q_gt, q_ge, q_eqI, q_neI, q_isNN, q_isNT, q_isNI, q_isNL, q_isnNN, q_isnNT, q_isnNI, q_isnNL, q_andT, q_andF, q_orT, q_orF, q_not, q_toB, q_part, q_fzI, q_fzB, q_fzS, q_fzN, q_fzT, q_fzL, q_fzW, q_fzSt, q_fzSc, s_nil, s_cons, k_nx, k_rt, k_bk, k_ct, s_asg, s_asgF, s_asgT, k_asg, s_par, s_expr, s_iff, s_retN, s_raise, s_brk, s_cont, s_pass, s_frz, k_frzO, k_frzV, s_retV, k_retO, k_retV, s_ret_non, s_ret_bl, s_ret_int, s_ret_str, s_ret_con, s_ret_bin, s_ret_neg, s_ret_cmp, s_ret_chain, s_ret_and, s_ret_or, s_ret_not, s_ret_ite, s_ret_tup, s_ret_lst, s_ret_idx, s_ret_slc, s_ret_call, s_ret_callK, s_ret_blt, s_ret_isk, s_ret_comp, s_app, k_runR, k_runN, for_nil, k_forN, k_forC, k_forB, k_forR, g_nm, g_tp, o_some, noErr_ret, Yes, retK, ret_bind, err_bind, bad_bind, draw_bind, getV, slOf, slO, setAll, parT, List.length_cons, List.length_nil, List.map_cons, List.map_nil, List.getElem?_cons_zero, List.getElem?_cons_succ, List.set_cons_zero, List.set_cons_succ, List.cons_append, List.nil_append, List.replicate_succ, List.replicate_zero, e_comp, dr (m := n + 1) (k := 9) (by decide) (by decide), bind_assoc']
  refine fun a a0 a1 => ?_
  have hr2 : rng1T (.int (1 + a)) = .ret ((rng 0 (1 + a)).map D.int) := rng_T (lo := 0) (hi := 1 + a) (by omega) (by omega) (by omega) (by omega)
  simp only [e_non, e_bl, e_int, e_str, e_var, e_con, e_bin, e_neg, e_cmp, e_chain, e_and, e_or, e_not, e_ite, e_tup, e_lst, e_idx, e_slc, e_call, e_callK, e_blt, e_isk, b_var, b_cmp, b_chain, b_and, b_or, b_not, b_yes, b_call, b_callK, b_blt, b_isk, a_nil, a_cons, r_nil, r_cons, o_nopart, o_part, i_rng1, i_rng2, i_zip, i_enum, i_cap, i_var, i_blt, i_call, i_tup, i_lst, i_idx, i_slc, q_add, q_sub, q_neg, q_lt, q_le, q_gt, q_ge, q_eqI, q_neI, q_isNN, q_isNT, q_isNI, q_isNL, q_isnNN, q_isnNT, q_isnNI, q_isnNL, q_andT, q_andF, q_orT, q_orF, q_not, q_toB, q_part, q_fzI, q_fzB, q_fzS, q_fzN, q_fzT, q_fzL, q_fzW, q_fzSt, q_fzSc, s_nil, s_cons, k_nx, k_rt, k_bk, k_ct, s_asg, s_asgF, s_asgT, k_asg, s_par, s_expr, s_iff, s_retN, s_raise, s_brk, s_cont, s_pass, s_frz, k_frzO, k_frzV, s_retV, k_retO, k_retV, s_ret_non, s_ret_bl, s_ret_int, s_ret_str, s_ret_con, s_ret_bin, s_ret_neg, s_ret_cmp, s_ret_chain, s_ret_and, s_ret_or, s_ret_not, s_ret_ite, s_ret_tup, s_ret_lst, s_ret_idx, s_ret_slc, s_ret_call, s_ret_callK, s_ret_blt, s_ret_isk, s_ret_comp, s_app, k_runR, k_runN, for_nil, k_forN, k_forC, k_forB, k_forR, g_nm, g_tp, o_some, noErr_ret, Yes, retK, ret_bind, err_bind, bad_bind, draw_bind, getV, slOf, slO, setAll, parT, List.length_cons, List.length_nil, List.map_cons, List.map_nil, List.getElem?_cons_zero, List.getElem?_cons_succ, List.set_cons_zero, List.set_cons_succ, List.cons_append, List.nil_append, List.replicate_succ, List.replicate_zero, hr2, bind_assoc']
  rw [all0_bind]
  refine All0.mono (noErr_all0 (compL_all (P := fun y => ∃ v : Int, y = .int v ∧ 1 ≤ v) (rng 0 (1 + a)) fun y hy => ?_)) (fun ys q => ?_) fun _ e => e
  · simp only [compF_eq, wipeE, e_non, e_bl, e_int, e_str, e_var, e_con, e_bin, e_neg, e_cmp, e_chain, e_and, e_or, e_not, e_ite, e_tup, e_lst, e_idx, e_slc, e_call, e_callK, e_blt, e_isk, b_var, b_cmp, b_chain, b_and, b_or, b_not, b_yes, b_call, b_callK, b_blt, b_isk, a_nil, a_cons, r_nil, r_cons, o_nopart, o_part, i_rng1, i_rng2, i_zip, i_enum, i_cap, i_var, i_blt, i_call, i_tup, i_lst, i_idx, i_slc, q_add, q_sub, q_neg, q_lt, q_le, q_gt, q_ge, q_eqI, q_neI, q_isNN, q_isNT, q_isNI, q_isNL, q_isnNN, q_isnNT, q_isnNI, q_isnNL, q_andT, q_andF, q_orT, q_orF, q_not, q_toB, q_part, q_fzI, q_fzB, q_fzS, q_fzN, q_fzT, q_fzL, q_fzW, q_fzSt, q_fzSc, s_nil, s_cons, k_nx, k_rt, k_bk, k_ct, s_asg, s_asgF, s_asgT, k_asg, s_par, s_expr, s_iff, s_retN, s_raise, s_brk, s_cont, s_pass, s_frz, k_frzO, k_frzV, s_retV, k_retO, k_retV, s_ret_non, s_ret_bl, s_ret_int, s_ret_str, s_ret_con, s_ret_bin, s_ret_neg, s_ret_cmp, s_ret_chain, s_ret_and, s_ret_or, s_ret_not, s_ret_ite, s_ret_tup, s_ret_lst, s_ret_idx, s_ret_slc, s_ret_call, s_ret_callK, s_ret_blt, s_ret_isk, s_ret_comp, s_app, k_runR, k_runN, for_nil, k_forN, k_forC, k_forB, k_forR, g_nm, g_tp, o_some, noErr_ret, Yes, retK, ret_bind, err_bind, bad_bind, draw_bind, getV, slOf, slO, setAll, parT, List.length_cons, List.length_nil, List.map_cons, List.map_nil, List.getElem?_cons_zero, List.getElem?_cons_succ, List.set_cons_zero, List.set_cons_succ, List.cons_append, List.nil_append, List.replicate_succ, List.replicate_zero, pw9, lt3, bind_assoc', if_true]
    rw [all0_bind]
    refine All0.mono p15 (fun d hd => ?_) fun _ e => e
    obtain ⟨v, hv1, rfl⟩ := hd
    have pv := pos v hv1
    simp only [e_non, e_bl, e_int, e_str, e_var, e_con, e_bin, e_neg, e_cmp, e_chain, e_and, e_or, e_not, e_ite, e_tup, e_lst, e_idx, e_slc, e_call, e_callK, e_blt, e_isk, b_var, b_cmp, b_chain, b_and, b_or, b_not, b_yes, b_call, b_callK, b_blt, b_isk, a_nil, a_cons, r_nil, r_cons, o_nopart, o_part, i_rng1, i_rng2, i_zip, i_enum, i_cap, i_var, i_blt, i_call, i_tup, i_lst, i_idx, i_slc, q_add, q_sub, q_neg, q_lt, q_le, q_gt, q_ge, q_eqI, q_neI, q_isNN, q_isNT, q_isNI, q_isNL, q_isnNN, q_isnNT, q_isnNI, q_isnNL, q_andT, q_andF, q_orT, q_orF, q_not, q_toB, q_part, q_fzI, q_fzB, q_fzS, q_fzN, q_fzT, q_fzL, q_fzW, q_fzSt, q_fzSc, s_nil, s_cons, k_nx, k_rt, k_bk, k_ct, s_asg, s_asgF, s_asgT, k_asg, s_par, s_expr, s_iff, s_retN, s_raise, s_brk, s_cont, s_pass, s_frz, k_frzO, k_frzV, s_retV, k_retO, k_retV, s_ret_non, s_ret_bl, s_ret_int, s_ret_str, s_ret_con, s_ret_bin, s_ret_neg, s_ret_cmp, s_ret_chain, s_ret_and, s_ret_or, s_ret_not, s_ret_ite, s_ret_tup, s_ret_lst, s_ret_idx, s_ret_slc, s_ret_call, s_ret_callK, s_ret_blt, s_ret_isk, s_ret_comp, s_app, k_runR, k_runN, for_nil, k_forN, k_forC, k_forB, k_forR, g_nm, g_tp, o_some, noErr_ret, Yes, retK, ret_bind, err_bind, bad_bind, draw_bind, getV, slOf, slO, setAll, parT, List.length_cons, List.length_nil, List.map_cons, List.map_nil, List.getElem?_cons_zero, List.getElem?_cons_succ, List.set_cons_zero, List.set_cons_succ, List.cons_append, List.nil_append, List.replicate_succ, List.replicate_zero, dr (m := n + 1) (k := v) pv.1 pv.2, bind_assoc']
    refine fun b b0 b1 => ?_
    exact ⟨_, rfl, 1 + b, rfl, by omega⟩
  · obtain ⟨q1, q2⟩ := q
    obtain ⟨ns, rfl, hn⟩ := ints_of q2
    rw [List.length_map, rng_length] at q1
    have fr : frozen (.lst (ns.map D.int)) = some (ns.map D.int) := rfl
    have hc : ∀ x2 x4 x5, compL (compF (.nm 5) [5] (evs (callF tab WH (n + 3)) .yes).B (evs (callF tab WH (n + 3)) (.call 16 (.cons (.var 1) (.cons (.var 5) .nil)))).E [.val .sta, .val (scD l), x2, .val (.lst (ns.map D.int)), x4, x5]) (ns.map D.int) = .ret ((ns.map (pay l)).map D.int) := fun x2 x4 x5 => by
      rw [List.map_map]
      refine comp_mapM fun y hy => ?_
      have g := f16 (n := n + 2) (l := l) (a := y) hv
      simp only [compF_eq, wipeE, e_non, e_bl, e_int, e_str, e_var, e_con, e_bin, e_neg, e_cmp, e_chain, e_and, e_or, e_not, e_ite, e_tup, e_lst, e_idx, e_slc, e_call, e_callK, e_blt, e_isk, b_var, b_cmp, b_chain, b_and, b_or, b_not, b_yes, b_call, b_callK, b_blt, b_isk, a_nil, a_cons, r_nil, r_cons, o_nopart, o_part, i_rng1, i_rng2, i_zip, i_enum, i_cap, i_var, i_blt, i_call, i_tup, i_lst, i_idx, i_slc, q_add, q_sub, q_neg, q_lt, q_le, q_gt, q_ge, q_eqI, q_neI, q_isNN, q_isNT, q_isNI, q_isNL, q_isnNN, q_isnNT, q_isnNI, q_isnNL, q_andT, q_andF, q_orT, q_orF, q_not, q_toB, q_part, q_fzI, q_fzB, q_fzS, q_fzN, q_fzT, q_fzL, q_fzW, q_fzSt, q_fzSc, s_nil, s_cons, k_nx, k_rt, k_bk, k_ct, s_asg, s_asgF, s_asgT, k_asg, s_par, s_expr, s_iff, s_retN, s_raise, s_brk, s_cont, s_pass, s_frz, k_frzO, k_frzV, s_retV, k_retO, k_retV, s_ret_non, s_ret_bl, s_ret_int, s_ret_str, s_ret_con, s_ret_bin, s_ret_neg, s_ret_cmp, s_ret_chain, s_ret_and, s_ret_or, s_ret_not, s_ret_ite, s_ret_tup, s_ret_lst, s_ret_idx, s_ret_slc, s_ret_call, s_ret_callK, s_ret_blt, s_ret_isk, s_ret_comp, s_app, k_runR, k_runN, for_nil, k_forN, k_forC, k_forB, k_forR, g_nm, g_tp, o_some, noErr_ret, Yes, retK, ret_bind, err_bind, bad_bind, draw_bind, getV, slOf, slO, setAll, parT, List.length_cons, List.length_nil, List.map_cons, List.map_nil, List.getElem?_cons_zero, List.getElem?_cons_succ, List.set_cons_zero, List.set_cons_succ, List.cons_append, List.nil_append, List.replicate_succ, List.replicate_zero, fz1, g, if_true]
      rfl
    have g := f16 (n := n + 2) (l := l) (a := ns.sum) hv
    have hh : ¬ pay l ns.sum < (ns.map (pay l)).sum := by
      cases ns with
      | nil => simp at q1; omega
      | cons z zs =>
        have := parts_le h zs z (hn z List.mem_cons_self) fun y hy => hn y (List.mem_cons_of_mem _ hy)
        rw [List.map_cons, List.sum_cons, List.sum_cons]
        omega
    simp only [e_non, e_bl, e_int, e_str, e_var, e_con, e_bin, e_neg, e_cmp, e_chain, e_and, e_or, e_not, e_ite, e_tup, e_lst, e_idx, e_slc, e_call, e_callK, e_blt, e_isk, b_var, b_cmp, b_chain, b_and, b_or, b_not, b_yes, b_call, b_callK, b_blt, b_isk, a_nil, a_cons, r_nil, r_cons, o_nopart, o_part, i_rng1, i_rng2, i_zip, i_enum, i_cap, i_var, i_blt, i_call, i_tup, i_lst, i_idx, i_slc, q_add, q_sub, q_neg, q_lt, q_le, q_gt, q_ge, q_eqI, q_neI, q_isNN, q_isNT, q_isNI, q_isNL, q_isnNN, q_isnNT, q_isnNI, q_isnNL, q_andT, q_andF, q_orT, q_orF, q_not, q_toB, q_part, q_fzI, q_fzB, q_fzS, q_fzN, q_fzT, q_fzL, q_fzW, q_fzSt, q_fzSc, s_nil, s_cons, k_nx, k_rt, k_bk, k_ct, s_asg, s_asgF, s_asgT, k_asg, s_par, s_expr, s_iff, s_retN, s_raise, s_brk, s_cont, s_pass, s_frz, k_frzO, k_frzV, s_retV, k_retO, k_retV, s_ret_non, s_ret_bl, s_ret_int, s_ret_str, s_ret_con, s_ret_bin, s_ret_neg, s_ret_cmp, s_ret_chain, s_ret_and, s_ret_or, s_ret_not, s_ret_ite, s_ret_tup, s_ret_lst, s_ret_idx, s_ret_slc, s_ret_call, s_ret_callK, s_ret_blt, s_ret_isk, s_ret_comp, s_app, k_runR, k_runN, for_nil, k_forN, k_forC, k_forB, k_forR, g_nm, g_tp, o_some, noErr_ret, Yes, retK, ret_bind, err_bind, bad_bind, draw_bind, getV, slOf, slO, setAll, parT, List.length_cons, List.length_nil, List.map_cons, List.map_nil, List.getElem?_cons_zero, List.getElem?_cons_succ, List.set_cons_zero, List.set_cons_succ, List.cons_append, List.nil_append, List.replicate_succ, List.replicate_zero, e_comp, fr, hc, noErr_ret, sum_new.1, sum_new.2, fz1, g, hh, decide_false, Bool.false_eq_true, if_false]
    exact ⟨_, _, _, _, rfl⟩
theorem f23r {n : Nat} {c : Nat → List D → T D} (hc : c = callF tab WH (n + 3)) {l : List Br} (hv : ∀ k ∈ l, VR k) (h : ∀ a b, 1 ≤ a → 1 ≤ b → gn (pay l) a b ≤ 0) :
    Yes (fun d => d = .bl true) (runD c WH d23 [.sta, scD l]) := by
  subst hc
  constructor
  rw [run_eq rfl]
  have hr : rng1T (.int 4) = .ret ((rng 0 4).map D.int) := rng_T (lo := 0) (hi := 4) (by decide) (by decide) (by decide) (by decide)
  generalize rng 0 4 = ts at hr
  have L := for_all (set := bindTg (.nm 2)) (body := ex (callF tab WH (n + 3)) WH b23) (g := D.int) (Inv := fun _ r => ∃ x2 x3 x4 x5, r = [.val .sta, .val (scD l), x2, x3, x4, x5]) (V := fun _ => False) (E := fun _ => False) ts (fun t l' r hr => step23 hv h t r hr) [.val .sta, .val (scD l), .un, .un, .un, .un] ⟨_, _, _, _, rfl⟩
  unfold b23 at L
  simp only [d23, startE]
  simp only [e_non, e_bl, e_int, e_str, e_var, e_con, e_bin, e_neg, e_cmp, e_chain, e_and, e_or, e_not, e_ite, e_tup, e_lst, e_idx, e_slc, e_call, e_callK, e_blt, e_isk, b_var, b_cmp, b_chain, b_and, b_or, b_not, b_yes, b_call, b_callK, b_blt, b_isk, a_nil, a_cons, r_nil, r_cons, o_nopart, o_part, i_rng1, i_rng2, i_zip, i_enum, i_cap, i_var, i_blt, i_call, i_tup, i_lst, i_idx, i_slc, q_add, q_sub, q_neg, q_lt, q_le, q_gt, q_ge, q_eqI, q_neI, q_isNN, q_isNT, q_isNI, q_isNL, q_isnNN, q_isnNT, q_isnNI, q_isnNL, q_andT, q_andF, q_orT, q_orF, q_not, q_toB, q_part, q_fzI, q_fzB, q_fzS, q_fzN, q_fzT, q_fzL, q_fzW, q_fzSt, q_fzSc, s_nil, s_cons, k_nx, k_rt, k_bk, k_ct, s_asg, s_asgF, s_asgT, k_asg, s_par, s_expr, s_iff, s_retN, s_raise, s_brk, s_cont, s_pass, s_frz, k_frzO, k_frzV, s_retV, k_retO, k_retV, s_ret_non, s_ret_bl, s_ret_int, s_ret_str, s_ret_con, s_ret_bin, s_ret_neg, s_ret_cmp, s_ret_chain, s_ret_and, s_ret_or, s_ret_not, s_ret_ite, s_ret_tup, s_ret_lst, s_ret_idx, s_ret_slc, s_ret_call, s_ret_callK, s_ret_blt, s_ret_isk, s_ret_comp, s_app, k_runR, k_runN, for_nil, k_forN, k_forC, k_forB, k_forR, g_nm, g_tp, o_some, noErr_ret, Yes, retK, ret_bind, err_bind, bad_bind, draw_bind, getV, slOf, slO, setAll, parT, List.length_cons, List.length_nil, List.map_cons, List.map_nil, List.getElem?_cons_zero, List.getElem?_cons_succ, List.set_cons_zero, List.set_cons_succ, List.cons_append, List.nil_append, List.replicate_succ, List.replicate_zero, s_for, hr]
  rw [bind_assoc', all0_bind]
  refine All0.mono L (fun fl q => ?_) fun _ e => e
  cases fl with
  | nx r =>
    obtain ⟨x2, x3, x4, x5, rfl⟩ := q
    simp only [e_non, e_bl, e_int, e_str, e_var, e_con, e_bin, e_neg, e_cmp, e_chain, e_and, e_or, e_not, e_ite, e_tup, e_lst, e_idx, e_slc, e_call, e_callK, e_blt, e_isk, b_var, b_cmp, b_chain, b_and, b_or, b_not, b_yes, b_call, b_callK, b_blt, b_isk, a_nil, a_cons, r_nil, r_cons, o_nopart, o_part, i_rng1, i_rng2, i_zip, i_enum, i_cap, i_var, i_blt, i_call, i_tup, i_lst, i_idx, i_slc, q_add, q_sub, q_neg, q_lt, q_le, q_gt, q_ge, q_eqI, q_neI, q_isNN, q_isNT, q_isNI, q_isNL, q_isnNN, q_isnNT, q_isnNI, q_isnNL, q_andT, q_andF, q_orT, q_orF, q_not, q_toB, q_part, q_fzI, q_fzB, q_fzS, q_fzN, q_fzT, q_fzL, q_fzW, q_fzSt, q_fzSc, s_nil, s_cons, k_nx, k_rt, k_bk, k_ct, s_asg, s_asgF, s_asgT, k_asg, s_par, s_expr, s_iff, s_retN, s_raise, s_brk, s_cont, s_pass, s_frz, k_frzO, k_frzV, s_retV, k_retO, k_retV, s_ret_non, s_ret_bl, s_ret_int, s_ret_str, s_ret_con, s_ret_bin, s_ret_neg, s_ret_cmp, s_ret_chain, s_ret_and, s_ret_or, s_ret_not, s_ret_ite, s_ret_tup, s_ret_lst, s_ret_idx, s_ret_slc, s_ret_call, s_ret_callK, s_ret_blt, s_ret_isk, s_ret_comp, s_app, k_runR, k_runN, for_nil, k_forN, k_forC, k_forB, k_forR, g_nm, g_tp, o_some, noErr_ret, Yes, retK, ret_bind, err_bind, bad_bind, draw_bind, getV, slOf, slO, setAll, parT, List.length_cons, List.length_nil, List.map_cons, List.map_nil, List.getElem?_cons_zero, List.getElem?_cons_succ, List.set_cons_zero, List.set_cons_succ, List.cons_append, List.nil_append, List.replicate_succ, List.replicate_zero]
    rfl
  | rt v => exact q.elim
  | bk _ => exact q.elim
  | ct _ => exact q.elim
end LW
end
section
set_option maxHeartbeats 1000000
namespace LW
open PySem PV
theorem t4 {a b c d : D} : lenT [a, b, c, d] (.tup [a, b, c, d]) = .ret (.tup [a, b, c, d]) := rfl
theorem t3 {a b c : D} : lenT [a, b, c] (.tup [a, b, c]) = .ret (.tup [a, b, c]) := rfl
theorem t2 {a b : D} : lenT [a, b] (.tup [a, b]) = .ret (.tup [a, b]) := rfl
def sStep (s b : Int) : List Br := [⟨0, 0, 0, 1⟩] ++ [⟨s, b, 0, 1⟩]
def sOwn (s p r : Int) : List Br := [⟨0, 0, 0, 1⟩] ++ [⟨s, 0, p, r⟩]
theorem f18 {n : Nat} : (callF tab WH (n + 3) 18 [.sta, .int 400]).All0 (fun d => ∃ s b, 2 ≤ s ∧ s ≤ 400 ∧ 1 ≤ b ∧ b ≤ 2000 ∧ d = .tup [scD (sStep s b), .int s, .int b]) fun _ => False := by
  show (runD (callF tab WH (n + 2)) WH d18 _).All0 _ _
  rw [run_eq rfl]
  simp only [d18, startE]
  simp only [e_non, e_bl, e_int, e_str, e_var, e_con, e_bin, e_neg, e_cmp, e_chain, e_and, e_or, e_not, e_ite, e_tup, e_lst, e_idx, e_slc, e_call, e_callK, e_blt, e_isk, b_var, b_cmp, b_chain, b_and, b_or, b_not, b_yes, b_call, b_callK, b_blt, b_isk, a_nil, a_cons, r_nil, r_cons, o_nopart, o_part, i_rng1, i_rng2, i_zip, i_enum, i_cap, i_var, i_blt, i_call, i_tup, i_lst, i_idx, i_slc, q_add, q_sub, q_neg, q_lt, q_le, q_gt, q_ge, q_eqI, q_neI, q_isNN, q_isNT, q_isNI, q_isNL, q_isnNN, q_isnNT, q_isnNI, q_isnNL, q_andT, q_andF, q_orT, q_orF, q_not, q_toB, q_part, q_fzI, q_fzB, q_fzS, q_fzN, q_fzT, q_fzL, q_fzW, q_fzSt, q_fzSc, s_nil, s_cons, k_nx, k_rt, k_bk, k_ct, s_asg, s_asgF, s_asgT, k_asg, s_par, s_expr, s_iff, s_retN, s_raise, s_brk, s_cont, s_pass, s_frz, k_frzO, k_frzV, s_retV, k_retO, k_retV, s_ret_non, s_ret_bl, s_ret_int, s_ret_str, s_ret_con, s_ret_bin, s_ret_neg, s_ret_cmp, s_ret_chain, s_ret_and, s_ret_or, s_ret_not, s_ret_ite, s_ret_tup, s_ret_lst, s_ret_idx, s_ret_slc, s_ret_call, s_ret_callK, s_ret_blt, s_ret_isk, s_ret_comp, s_app, k_runR, k_runN, for_nil, k_forN, k_forC, k_forB, k_forR, g_nm, g_tp, o_some, noErr_ret, retK, ret_bind, err_bind, bad_bind, draw_bind, getV, slOf, slO, setAll, parT, List.length_cons, List.length_nil, List.map_cons, List.map_nil, List.getElem?_cons_zero, List.getElem?_cons_succ, List.set_cons_zero, List.set_cons_succ, List.cons_append, List.nil_append, List.replicate_succ, List.replicate_zero, dr (m := n) (k := 400 - 1) (by decide) (by decide), bind_assoc']
  refine fun a a0 a1 => ?_
  simp only [e_non, e_bl, e_int, e_str, e_var, e_con, e_bin, e_neg, e_cmp, e_chain, e_and, e_or, e_not, e_ite, e_tup, e_lst, e_idx, e_slc, e_call, e_callK, e_blt, e_isk, b_var, b_cmp, b_chain, b_and, b_or, b_not, b_yes, b_call, b_callK, b_blt, b_isk, a_nil, a_cons, r_nil, r_cons, o_nopart, o_part, i_rng1, i_rng2, i_zip, i_enum, i_cap, i_var, i_blt, i_call, i_tup, i_lst, i_idx, i_slc, q_add, q_sub, q_neg, q_lt, q_le, q_gt, q_ge, q_eqI, q_neI, q_isNN, q_isNT, q_isNI, q_isNL, q_isnNN, q_isnNT, q_isnNI, q_isnNL, q_andT, q_andF, q_orT, q_orF, q_not, q_toB, q_part, q_fzI, q_fzB, q_fzS, q_fzN, q_fzT, q_fzL, q_fzW, q_fzSt, q_fzSc, s_nil, s_cons, k_nx, k_rt, k_bk, k_ct, s_asg, s_asgF, s_asgT, k_asg, s_par, s_expr, s_iff, s_retN, s_raise, s_brk, s_cont, s_pass, s_frz, k_frzO, k_frzV, s_retV, k_retO, k_retV, s_ret_non, s_ret_bl, s_ret_int, s_ret_str, s_ret_con, s_ret_bin, s_ret_neg, s_ret_cmp, s_ret_chain, s_ret_and, s_ret_or, s_ret_not, s_ret_ite, s_ret_tup, s_ret_lst, s_ret_idx, s_ret_slc, s_ret_call, s_ret_callK, s_ret_blt, s_ret_isk, s_ret_comp, s_app, k_runR, k_runN, for_nil, k_forN, k_forC, k_forB, k_forR, g_nm, g_tp, o_some, noErr_ret, retK, ret_bind, err_bind, bad_bind, draw_bind, getV, slOf, slO, setAll, parT, List.length_cons, List.length_nil, List.map_cons, List.map_nil, List.getElem?_cons_zero, List.getElem?_cons_succ, List.set_cons_zero, List.set_cons_succ, List.cons_append, List.nil_append, List.replicate_succ, List.replicate_zero, dr (m := n) (k := 2000) (by decide) (by decide), bind_assoc']
  refine fun b b0 b1 => ?_
  simp only [e_non, e_bl, e_int, e_str, e_var, e_con, e_bin, e_neg, e_cmp, e_chain, e_and, e_or, e_not, e_ite, e_tup, e_lst, e_idx, e_slc, e_call, e_callK, e_blt, e_isk, b_var, b_cmp, b_chain, b_and, b_or, b_not, b_yes, b_call, b_callK, b_blt, b_isk, a_nil, a_cons, r_nil, r_cons, o_nopart, o_part, i_rng1, i_rng2, i_zip, i_enum, i_cap, i_var, i_blt, i_call, i_tup, i_lst, i_idx, i_slc, q_add, q_sub, q_neg, q_lt, q_le, q_gt, q_ge, q_eqI, q_neI, q_isNN, q_isNT, q_isNI, q_isNL, q_isnNN, q_isnNT, q_isnNI, q_isnNL, q_andT, q_andF, q_orT, q_orF, q_not, q_toB, q_part, q_fzI, q_fzB, q_fzS, q_fzN, q_fzT, q_fzL, q_fzW, q_fzSt, q_fzSc, s_nil, s_cons, k_nx, k_rt, k_bk, k_ct, s_asg, s_asgF, s_asgT, k_asg, s_par, s_expr, s_iff, s_retN, s_raise, s_brk, s_cont, s_pass, s_frz, k_frzO, k_frzV, s_retV, k_retO, k_retV, s_ret_non, s_ret_bl, s_ret_int, s_ret_str, s_ret_con, s_ret_bin, s_ret_neg, s_ret_cmp, s_ret_chain, s_ret_and, s_ret_or, s_ret_not, s_ret_ite, s_ret_tup, s_ret_lst, s_ret_idx, s_ret_slc, s_ret_call, s_ret_callK, s_ret_blt, s_ret_isk, s_ret_comp, s_app, k_runR, k_runN, for_nil, k_forN, k_forC, k_forB, k_forR, g_nm, g_tp, o_some, noErr_ret, retK, ret_bind, err_bind, bad_bind, draw_bind, getV, slOf, slO, setAll, parT, List.length_cons, List.length_nil, List.map_cons, List.map_nil, List.getElem?_cons_zero, List.getElem?_cons_succ, List.set_cons_zero, List.set_cons_succ, List.cons_append, List.nil_append, List.replicate_succ, List.replicate_zero, t2, t3, t4]
  exact ⟨2 + a, 1 + b, by omega, by omega, by omega, by omega, rfl⟩
theorem f19 {n : Nat} : (callF tab WH (n + 3) 19 [.sta, .int 380]).All0 (fun d => ∃ s p r, 2 ≤ s ∧ s ≤ 380 ∧ 1 ≤ r ∧ r ≤ 20 ∧ 1 ≤ p ∧ p ≤ 3 * r ∧ d = .tup [scD (sOwn s p r), .int s, .int p, .int r]) fun _ => False := by
  show (runD (callF tab WH (n + 2)) WH d19 _).All0 _ _
  rw [run_eq rfl]
  simp only [d19, startE]
  simp only [e_non, e_bl, e_int, e_str, e_var, e_con, e_bin, e_neg, e_cmp, e_chain, e_and, e_or, e_not, e_ite, e_tup, e_lst, e_idx, e_slc, e_call, e_callK, e_blt, e_isk, b_var, b_cmp, b_chain, b_and, b_or, b_not, b_yes, b_call, b_callK, b_blt, b_isk, a_nil, a_cons, r_nil, r_cons, o_nopart, o_part, i_rng1, i_rng2, i_zip, i_enum, i_cap, i_var, i_blt, i_call, i_tup, i_lst, i_idx, i_slc, q_add, q_sub, q_neg, q_lt, q_le, q_gt, q_ge, q_eqI, q_neI, q_isNN, q_isNT, q_isNI, q_isNL, q_isnNN, q_isnNT, q_isnNI, q_isnNL, q_andT, q_andF, q_orT, q_orF, q_not, q_toB, q_part, q_fzI, q_fzB, q_fzS, q_fzN, q_fzT, q_fzL, q_fzW, q_fzSt, q_fzSc, s_nil, s_cons, k_nx, k_rt, k_bk, k_ct, s_asg, s_asgF, s_asgT, k_asg, s_par, s_expr, s_iff, s_retN, s_raise, s_brk, s_cont, s_pass, s_frz, k_frzO, k_frzV, s_retV, k_retO, k_retV, s_ret_non, s_ret_bl, s_ret_int, s_ret_str, s_ret_con, s_ret_bin, s_ret_neg, s_ret_cmp, s_ret_chain, s_ret_and, s_ret_or, s_ret_not, s_ret_ite, s_ret_tup, s_ret_lst, s_ret_idx, s_ret_slc, s_ret_call, s_ret_callK, s_ret_blt, s_ret_isk, s_ret_comp, s_app, k_runR, k_runN, for_nil, k_forN, k_forC, k_forB, k_forR, g_nm, g_tp, o_some, noErr_ret, retK, ret_bind, err_bind, bad_bind, draw_bind, getV, slOf, slO, setAll, parT, List.length_cons, List.length_nil, List.map_cons, List.map_nil, List.getElem?_cons_zero, List.getElem?_cons_succ, List.set_cons_zero, List.set_cons_succ, List.cons_append, List.nil_append, List.replicate_succ, List.replicate_zero, dr (m := n) (k := 380 - 1) (by decide) (by decide), bind_assoc']
  refine fun a a0 a1 => ?_
  simp only [e_non, e_bl, e_int, e_str, e_var, e_con, e_bin, e_neg, e_cmp, e_chain, e_and, e_or, e_not, e_ite, e_tup, e_lst, e_idx, e_slc, e_call, e_callK, e_blt, e_isk, b_var, b_cmp, b_chain, b_and, b_or, b_not, b_yes, b_call, b_callK, b_blt, b_isk, a_nil, a_cons, r_nil, r_cons, o_nopart, o_part, i_rng1, i_rng2, i_zip, i_enum, i_cap, i_var, i_blt, i_call, i_tup, i_lst, i_idx, i_slc, q_add, q_sub, q_neg, q_lt, q_le, q_gt, q_ge, q_eqI, q_neI, q_isNN, q_isNT, q_isNI, q_isNL, q_isnNN, q_isnNT, q_isnNI, q_isnNL, q_andT, q_andF, q_orT, q_orF, q_not, q_toB, q_part, q_fzI, q_fzB, q_fzS, q_fzN, q_fzT, q_fzL, q_fzW, q_fzSt, q_fzSc, s_nil, s_cons, k_nx, k_rt, k_bk, k_ct, s_asg, s_asgF, s_asgT, k_asg, s_par, s_expr, s_iff, s_retN, s_raise, s_brk, s_cont, s_pass, s_frz, k_frzO, k_frzV, s_retV, k_retO, k_retV, s_ret_non, s_ret_bl, s_ret_int, s_ret_str, s_ret_con, s_ret_bin, s_ret_neg, s_ret_cmp, s_ret_chain, s_ret_and, s_ret_or, s_ret_not, s_ret_ite, s_ret_tup, s_ret_lst, s_ret_idx, s_ret_slc, s_ret_call, s_ret_callK, s_ret_blt, s_ret_isk, s_ret_comp, s_app, k_runR, k_runN, for_nil, k_forN, k_forC, k_forB, k_forR, g_nm, g_tp, o_some, noErr_ret, retK, ret_bind, err_bind, bad_bind, draw_bind, getV, slOf, slO, setAll, parT, List.length_cons, List.length_nil, List.map_cons, List.map_nil, List.getElem?_cons_zero, List.getElem?_cons_succ, List.set_cons_zero, List.set_cons_succ, List.cons_append, List.nil_append, List.replicate_succ, List.replicate_zero, dr (m := n) (k := 20) (by decide) (by decide), bind_assoc']
  refine fun b b0 b1 => ?_
  have q1 := q_mulL (i := 3) (j := 1 + b) (by decide) (by decide)
  simp only [e_non, e_bl, e_int, e_str, e_var, e_con, e_bin, e_neg, e_cmp, e_chain, e_and, e_or, e_not, e_ite, e_tup, e_lst, e_idx, e_slc, e_call, e_callK, e_blt, e_isk, b_var, b_cmp, b_chain, b_and, b_or, b_not, b_yes, b_call, b_callK, b_blt, b_isk, a_nil, a_cons, r_nil, r_cons, o_nopart, o_part, i_rng1, i_rng2, i_zip, i_enum, i_cap, i_var, i_blt, i_call, i_tup, i_lst, i_idx, i_slc, q_add, q_sub, q_neg, q_lt, q_le, q_gt, q_ge, q_eqI, q_neI, q_isNN, q_isNT, q_isNI, q_isNL, q_isnNN, q_isnNT, q_isnNI, q_isnNL, q_andT, q_andF, q_orT, q_orF, q_not, q_toB, q_part, q_fzI, q_fzB, q_fzS, q_fzN, q_fzT, q_fzL, q_fzW, q_fzSt, q_fzSc, s_nil, s_cons, k_nx, k_rt, k_bk, k_ct, s_asg, s_asgF, s_asgT, k_asg, s_par, s_expr, s_iff, s_retN, s_raise, s_brk, s_cont, s_pass, s_frz, k_frzO, k_frzV, s_retV, k_retO, k_retV, s_ret_non, s_ret_bl, s_ret_int, s_ret_str, s_ret_con, s_ret_bin, s_ret_neg, s_ret_cmp, s_ret_chain, s_ret_and, s_ret_or, s_ret_not, s_ret_ite, s_ret_tup, s_ret_lst, s_ret_idx, s_ret_slc, s_ret_call, s_ret_callK, s_ret_blt, s_ret_isk, s_ret_comp, s_app, k_runR, k_runN, for_nil, k_forN, k_forC, k_forB, k_forR, g_nm, g_tp, o_some, noErr_ret, retK, ret_bind, err_bind, bad_bind, draw_bind, getV, slOf, slO, setAll, parT, List.length_cons, List.length_nil, List.map_cons, List.map_nil, List.getElem?_cons_zero, List.getElem?_cons_succ, List.set_cons_zero, List.set_cons_succ, List.cons_append, List.nil_append, List.replicate_succ, List.replicate_zero, q1, dr (m := n) (k := 3 * (1 + b)) (by omega) (by omega), bind_assoc']
  refine fun c c0 c1 => ?_
  simp only [e_non, e_bl, e_int, e_str, e_var, e_con, e_bin, e_neg, e_cmp, e_chain, e_and, e_or, e_not, e_ite, e_tup, e_lst, e_idx, e_slc, e_call, e_callK, e_blt, e_isk, b_var, b_cmp, b_chain, b_and, b_or, b_not, b_yes, b_call, b_callK, b_blt, b_isk, a_nil, a_cons, r_nil, r_cons, o_nopart, o_part, i_rng1, i_rng2, i_zip, i_enum, i_cap, i_var, i_blt, i_call, i_tup, i_lst, i_idx, i_slc, q_add, q_sub, q_neg, q_lt, q_le, q_gt, q_ge, q_eqI, q_neI, q_isNN, q_isNT, q_isNI, q_isNL, q_isnNN, q_isnNT, q_isnNI, q_isnNL, q_andT, q_andF, q_orT, q_orF, q_not, q_toB, q_part, q_fzI, q_fzB, q_fzS, q_fzN, q_fzT, q_fzL, q_fzW, q_fzSt, q_fzSc, s_nil, s_cons, k_nx, k_rt, k_bk, k_ct, s_asg, s_asgF, s_asgT, k_asg, s_par, s_expr, s_iff, s_retN, s_raise, s_brk, s_cont, s_pass, s_frz, k_frzO, k_frzV, s_retV, k_retO, k_retV, s_ret_non, s_ret_bl, s_ret_int, s_ret_str, s_ret_con, s_ret_bin, s_ret_neg, s_ret_cmp, s_ret_chain, s_ret_and, s_ret_or, s_ret_not, s_ret_ite, s_ret_tup, s_ret_lst, s_ret_idx, s_ret_slc, s_ret_call, s_ret_callK, s_ret_blt, s_ret_isk, s_ret_comp, s_app, k_runR, k_runN, for_nil, k_forN, k_forC, k_forB, k_forR, g_nm, g_tp, o_some, noErr_ret, retK, ret_bind, err_bind, bad_bind, draw_bind, getV, slOf, slO, setAll, parT, List.length_cons, List.length_nil, List.map_cons, List.map_nil, List.getElem?_cons_zero, List.getElem?_cons_succ, List.set_cons_zero, List.set_cons_succ, List.cons_append, List.nil_append, List.replicate_succ, List.replicate_zero, t2, t3, t4]
  exact ⟨2 + a, 1 + c, 1 + b, by omega, by omega, by omega, by omega, by omega, by omega, rfl⟩
theorem tuple_new {xs : List D} : bltT .tuple [.new xs] = .ret (.tup xs) := rfl
def m2 (x : Br) : Br := ⟨x.s, x.b, x.p % 2, x.r⟩
theorem f20 {n : Nat} : (callF tab WH (n + 4) 20 [.sta]).All0 (fun d => ∃ l k, VS l ∧ (∀ x ∈ l, x.p = 0 ∨ x.p = 1) ∧ 2 ≤ k ∧ VS (l.map (strB k)) ∧ d = .tup [scD l, .int k, scD (l.map (strB k))]) fun _ => False := by
  show (runD (callF tab WH (n + 3)) WH d20 _).All0 _ _
  rw [run_eq rfl]
  simp only [d20, startE]
  simp only [e_non, e_bl, e_int, e_str, e_var, e_con, e_bin, e_neg, e_cmp, e_chain, e_and, e_or, e_not, e_ite, e_tup, e_lst, e_idx, e_slc, e_call, e_callK, e_blt, e_isk, b_var, b_cmp, b_chain, b_and, b_or, b_not, b_yes, b_call, b_callK, b_blt, b_isk, a_nil, a_cons, r_nil, r_cons, o_nopart, o_part, i_rng1, i_rng2, i_zip, i_enum, i_cap, i_var, i_blt, i_call, i_tup, i_lst, i_idx, i_slc, q_add, q_sub, q_neg, q_lt, q_le, q_gt, q_ge, q_eqI, q_neI, q_isNN, q_isNT, q_isNI, q_isNL, q_isnNN, q_isnNT, q_isnNI, q_isnNL, q_andT, q_andF, q_orT, q_orF, q_not, q_toB, q_part, q_fzI, q_fzB, q_fzS, q_fzN, q_fzT, q_fzL, q_fzW, q_fzSt, q_fzSc, s_nil, s_cons, k_nx, k_rt, k_bk, k_ct, s_asg, s_asgF, s_asgT, k_asg, s_par, s_expr, s_iff, s_retN, s_raise, s_brk, s_cont, s_pass, s_frz, k_frzO, k_frzV, s_retV, k_retO, k_retV, s_ret_non, s_ret_bl, s_ret_int, s_ret_str, s_ret_con, s_ret_bin, s_ret_neg, s_ret_cmp, s_ret_chain, s_ret_and, s_ret_or, s_ret_not, s_ret_ite, s_ret_tup, s_ret_lst, s_ret_idx, s_ret_slc, s_ret_call, s_ret_callK, s_ret_blt, s_ret_isk, s_ret_comp, s_app, k_runR, k_runN, for_nil, k_forN, k_forC, k_forB, k_forR, g_nm, g_tp, o_some, noErr_ret, retK, ret_bind, err_bind, bad_bind, draw_bind, getV, slOf, slO, setAll, parT, List.length_cons, List.length_nil, List.map_cons, List.map_nil, List.getElem?_cons_zero, List.getElem?_cons_succ, List.set_cons_zero, List.set_cons_succ, List.cons_append, List.nil_append, List.replicate_succ, List.replicate_zero, dr (m := n + 1) (k := 3) (by decide) (by decide), bind_assoc']
  refine fun a a0 a1 => ?_
  have q1 := q_fdiv (i := 20) (j := 1 + a) (by omega) (by omega)
  have hq : 6 ≤ 20 / (1 + a) ∧ 20 / (1 + a) ≤ 20 := by
    have : a = 0 ∨ a = 1 ∨ a = 2 := by omega
    rcases this with rfl | rfl | rfl <;> decide
  have hq2 : (1 + a) * (20 / (1 + a)) ≤ 20 := Int.mul_ediv_self_le (by omega)
  simp only [e_non, e_bl, e_int, e_str, e_var, e_con, e_bin, e_neg, e_cmp, e_chain, e_and, e_or, e_not, e_ite, e_tup, e_lst, e_idx, e_slc, e_call, e_callK, e_blt, e_isk, b_var, b_cmp, b_chain, b_and, b_or, b_not, b_yes, b_call, b_callK, b_blt, b_isk, a_nil, a_cons, r_nil, r_cons, o_nopart, o_part, i_rng1, i_rng2, i_zip, i_enum, i_cap, i_var, i_blt, i_call, i_tup, i_lst, i_idx, i_slc, q_add, q_sub, q_neg, q_lt, q_le, q_gt, q_ge, q_eqI, q_neI, q_isNN, q_isNT, q_isNI, q_isNL, q_isnNN, q_isnNT, q_isnNI, q_isnNL, q_andT, q_andF, q_orT, q_orF, q_not, q_toB, q_part, q_fzI, q_fzB, q_fzS, q_fzN, q_fzT, q_fzL, q_fzW, q_fzSt, q_fzSc, s_nil, s_cons, k_nx, k_rt, k_bk, k_ct, s_asg, s_asgF, s_asgT, k_asg, s_par, s_expr, s_iff, s_retN, s_raise, s_brk, s_cont, s_pass, s_frz, k_frzO, k_frzV, s_retV, k_retO, k_retV, s_ret_non, s_ret_bl, s_ret_int, s_ret_str, s_ret_con, s_ret_bin, s_ret_neg, s_ret_cmp, s_ret_chain, s_ret_and, s_ret_or, s_ret_not, s_ret_ite, s_ret_tup, s_ret_lst, s_ret_idx, s_ret_slc, s_ret_call, s_ret_callK, s_ret_blt, s_ret_isk, s_ret_comp, s_app, k_runR, k_runN, for_nil, k_forN, k_forC, k_forB, k_forR, g_nm, g_tp, o_some, noErr_ret, retK, ret_bind, err_bind, bad_bind, draw_bind, getV, slOf, slO, setAll, parT, List.length_cons, List.length_nil, List.map_cons, List.map_nil, List.getElem?_cons_zero, List.getElem?_cons_succ, List.set_cons_zero, List.set_cons_succ, List.cons_append, List.nil_append, List.replicate_succ, List.replicate_zero, q1, dr (m := n + 1) (k := 20 / (1 + a) - 1) (by omega) (by omega), bind_assoc']
  refine fun b b0 b1 => ?_
  simp only [e_non, e_bl, e_int, e_str, e_var, e_con, e_bin, e_neg, e_cmp, e_chain, e_and, e_or, e_not, e_ite, e_tup, e_lst, e_idx, e_slc, e_call, e_callK, e_blt, e_isk, b_var, b_cmp, b_chain, b_and, b_or, b_not, b_yes, b_call, b_callK, b_blt, b_isk, a_nil, a_cons, r_nil, r_cons, o_nopart, o_part, i_rng1, i_rng2, i_zip, i_enum, i_cap, i_var, i_blt, i_call, i_tup, i_lst, i_idx, i_slc, q_add, q_sub, q_neg, q_lt, q_le, q_gt, q_ge, q_eqI, q_neI, q_isNN, q_isNT, q_isNI, q_isNL, q_isnNN, q_isnNT, q_isnNI, q_isnNL, q_andT, q_andF, q_orT, q_orF, q_not, q_toB, q_part, q_fzI, q_fzB, q_fzS, q_fzN, q_fzT, q_fzL, q_fzW, q_fzSt, q_fzSc, s_nil, s_cons, k_nx, k_rt, k_bk, k_ct, s_asg, s_asgF, s_asgT, k_asg, s_par, s_expr, s_iff, s_retN, s_raise, s_brk, s_cont, s_pass, s_frz, k_frzO, k_frzV, s_retV, k_retO, k_retV, s_ret_non, s_ret_bl, s_ret_int, s_ret_str, s_ret_con, s_ret_bin, s_ret_neg, s_ret_cmp, s_ret_chain, s_ret_and, s_ret_or, s_ret_not, s_ret_ite, s_ret_tup, s_ret_lst, s_ret_idx, s_ret_slc, s_ret_call, s_ret_callK, s_ret_blt, s_ret_isk, s_ret_comp, s_app, k_runR, k_runN, for_nil, k_forN, k_forC, k_forB, k_forR, g_nm, g_tp, o_some, noErr_ret, retK, ret_bind, err_bind, bad_bind, draw_bind, getV, slOf, slO, setAll, parT, List.length_cons, List.length_nil, List.map_cons, List.map_nil, List.getElem?_cons_zero, List.getElem?_cons_succ, List.set_cons_zero, List.set_cons_succ, List.cons_append, List.nil_append, List.replicate_succ, List.replicate_zero, e_comp, i_call, bind_assoc']
  rw [all0_bind]
  refine All0.mono (f17 (n := n) (top := 9) (width := 1 + a) (by decide) (by decide) (by omega) (by omega)) (fun d hd => ?_) fun _ e => e
  obtain ⟨l, rfl, v, hb⟩ := hd
  have fr : ∀ l : List Br, frozen (scD l) = some (l.map brD) := fun _ => rfl
  have hc : compL (compF (.tp [4, 5, 6, 7]) [4, 5, 6, 7] (evs (callF tab WH (n + 3)) .yes).B (evs (callF tab WH (n + 3)) (.tup (.cons (.var 4) (.cons (.var 5) (.cons (.bin .mod (.blt .int (.cons (.var 6) .nil)) (.int 2)) (.cons (.var 7) .nil)))))).E [.val .sta, .val (.int (1 + a)), .val (.int (2 + b)), .un, .un, .un, .un, .un]) (l.map brD) = .ret ((l.map m2).map brD) := by
    rw [List.map_map]
    refine comp_mapM fun x hx => ?_
    have ib : bltT .int [.int x.p] = .ret (.int x.p) := rfl
    have q := q_mod (i := x.p) (j := 2) (by decide)
    simp only [compF_eq, wipeE, e_non, e_bl, e_int, e_str, e_var, e_con, e_bin, e_neg, e_cmp, e_chain, e_and, e_or, e_not, e_ite, e_tup, e_lst, e_idx, e_slc, e_call, e_callK, e_blt, e_isk, b_var, b_cmp, b_chain, b_and, b_or, b_not, b_yes, b_call, b_callK, b_blt, b_isk, a_nil, a_cons, r_nil, r_cons, o_nopart, o_part, i_rng1, i_rng2, i_zip, i_enum, i_cap, i_var, i_blt, i_call, i_tup, i_lst, i_idx, i_slc, q_add, q_sub, q_neg, q_lt, q_le, q_gt, q_ge, q_eqI, q_neI, q_isNN, q_isNT, q_isNI, q_isNL, q_isnNN, q_isnNT, q_isnNI, q_isnNL, q_andT, q_andF, q_orT, q_orF, q_not, q_toB, q_part, q_fzI, q_fzB, q_fzS, q_fzN, q_fzT, q_fzL, q_fzW, q_fzSt, q_fzSc, s_nil, s_cons, k_nx, k_rt, k_bk, k_ct, s_asg, s_asgF, s_asgT, k_asg, s_par, s_expr, s_iff, s_retN, s_raise, s_brk, s_cont, s_pass, s_frz, k_frzO, k_frzV, s_retV, k_retO, k_retV, s_ret_non, s_ret_bl, s_ret_int, s_ret_str, s_ret_con, s_ret_bin, s_ret_neg, s_ret_cmp, s_ret_chain, s_ret_and, s_ret_or, s_ret_not, s_ret_ite, s_ret_tup, s_ret_lst, s_ret_idx, s_ret_slc, s_ret_call, s_ret_callK, s_ret_blt, s_ret_isk, s_ret_comp, s_app, k_runR, k_runN, for_nil, k_forN, k_forC, k_forB, k_forR, g_nm, g_tp, o_some, noErr_ret, retK, ret_bind, err_bind, bad_bind, draw_bind, getV, slOf, slO, setAll, parT, List.length_cons, List.length_nil, List.map_cons, List.map_nil, List.getElem?_cons_zero, List.getElem?_cons_succ, List.set_cons_zero, List.set_cons_succ, List.cons_append, List.nil_append, List.replicate_succ, List.replicate_zero, brD, ib, q, t4, if_true]
    rfl
  have hc2 : compL (compF (.tp [4, 5, 6, 7]) [4, 5, 6, 7] (evs (callF tab WH (n + 3)) .yes).B (evs (callF tab WH (n + 3)) (.tup (.cons (.bin .mul (.var 2) (.var 4)) (.cons (.var 5) (.cons (.var 6) (.cons (.bin .mul (.var 2) (.var 7)) .nil)))))).E [.val .sta, .val (.int (1 + a)), .val (.int (2 + b)), .val (.tup ((l.map m2).map brD)), .un, .un, .un, .un]) ((l.map m2).map brD) = .ret (((l.map m2).map (strB (2 + b))).map brD) := by
    rw [List.map_map (g := brD) (f := strB (2 + b))]
    refine comp_mapM fun x hx => ?_
    have q := q_mulL (i := 2 + b) (j := x.s) (by omega) (by omega)
    have q' := q_mulL (i := 2 + b) (j := x.r) (by omega) (by omega)
    simp only [compF_eq, wipeE, e_non, e_bl, e_int, e_str, e_var, e_con, e_bin, e_neg, e_cmp, e_chain, e_and, e_or, e_not, e_ite, e_tup, e_lst, e_idx, e_slc, e_call, e_callK, e_blt, e_isk, b_var, b_cmp, b_chain, b_and, b_or, b_not, b_yes, b_call, b_callK, b_blt, b_isk, a_nil, a_cons, r_nil, r_cons, o_nopart, o_part, i_rng1, i_rng2, i_zip, i_enum, i_cap, i_var, i_blt, i_call, i_tup, i_lst, i_idx, i_slc, q_add, q_sub, q_neg, q_lt, q_le, q_gt, q_ge, q_eqI, q_neI, q_isNN, q_isNT, q_isNI, q_isNL, q_isnNN, q_isnNT, q_isnNI, q_isnNL, q_andT, q_andF, q_orT, q_orF, q_not, q_toB, q_part, q_fzI, q_fzB, q_fzS, q_fzN, q_fzT, q_fzL, q_fzW, q_fzSt, q_fzSc, s_nil, s_cons, k_nx, k_rt, k_bk, k_ct, s_asg, s_asgF, s_asgT, k_asg, s_par, s_expr, s_iff, s_retN, s_raise, s_brk, s_cont, s_pass, s_frz, k_frzO, k_frzV, s_retV, k_retO, k_retV, s_ret_non, s_ret_bl, s_ret_int, s_ret_str, s_ret_con, s_ret_bin, s_ret_neg, s_ret_cmp, s_ret_chain, s_ret_and, s_ret_or, s_ret_not, s_ret_ite, s_ret_tup, s_ret_lst, s_ret_idx, s_ret_slc, s_ret_call, s_ret_callK, s_ret_blt, s_ret_isk, s_ret_comp, s_app, k_runR, k_runN, for_nil, k_forN, k_forC, k_forB, k_forR, g_nm, g_tp, o_some, noErr_ret, retK, ret_bind, err_bind, bad_bind, draw_bind, getV, slOf, slO, setAll, parT, List.length_cons, List.length_nil, List.map_cons, List.map_nil, List.getElem?_cons_zero, List.getElem?_cons_succ, List.set_cons_zero, List.set_cons_succ, List.cons_append, List.nil_append, List.replicate_succ, List.replicate_zero, brD, q, q', t4, if_true]
    rfl
  have fr2 : frozen (.tup ((l.map m2).map brD)) = some ((l.map m2).map brD) := rfl
  simp only [e_non, e_bl, e_int, e_str, e_var, e_con, e_bin, e_neg, e_cmp, e_chain, e_and, e_or, e_not, e_ite, e_tup, e_lst, e_idx, e_slc, e_call, e_callK, e_blt, e_isk, b_var, b_cmp, b_chain, b_and, b_or, b_not, b_yes, b_call, b_callK, b_blt, b_isk, a_nil, a_cons, r_nil, r_cons, o_nopart, o_part, i_rng1, i_rng2, i_zip, i_enum, i_cap, i_var, i_blt, i_call, i_tup, i_lst, i_idx, i_slc, q_add, q_sub, q_neg, q_lt, q_le, q_gt, q_ge, q_eqI, q_neI, q_isNN, q_isNT, q_isNI, q_isNL, q_isnNN, q_isnNT, q_isnNI, q_isnNL, q_andT, q_andF, q_orT, q_orF, q_not, q_toB, q_part, q_fzI, q_fzB, q_fzS, q_fzN, q_fzT, q_fzL, q_fzW, q_fzSt, q_fzSc, s_nil, s_cons, k_nx, k_rt, k_bk, k_ct, s_asg, s_asgF, s_asgT, k_asg, s_par, s_expr, s_iff, s_retN, s_raise, s_brk, s_cont, s_pass, s_frz, k_frzO, k_frzV, s_retV, k_retO, k_retV, s_ret_non, s_ret_bl, s_ret_int, s_ret_str, s_ret_con, s_ret_bin, s_ret_neg, s_ret_cmp, s_ret_chain, s_ret_and, s_ret_or, s_ret_not, s_ret_ite, s_ret_tup, s_ret_lst, s_ret_idx, s_ret_slc, s_ret_call, s_ret_callK, s_ret_blt, s_ret_isk, s_ret_comp, s_app, k_runR, k_runN, for_nil, k_forN, k_forC, k_forB, k_forR, g_nm, g_tp, o_some, noErr_ret, retK, ret_bind, err_bind, bad_bind, draw_bind, getV, slOf, slO, setAll, parT, List.length_cons, List.length_nil, List.map_cons, List.map_nil, List.getElem?_cons_zero, List.getElem?_cons_succ, List.set_cons_zero, List.set_cons_succ, List.cons_append, List.nil_append, List.replicate_succ, List.replicate_zero, e_comp, fr, hc, noErr_ret, tuple_new, fr2, hc2, t3]
  have m0 : ∀ x ∈ l, VB (m2 x) := fun x hx => by
    have w := v.vb x hx
    have e1 := Int.emod_nonneg x.p (b := 2) (by decide)
    have e2 := Int.emod_lt_of_pos x.p (b := 2) (by decide)
    exact ⟨w.s0, w.s1, w.b0, w.b1, w.r0, w.r1, e1, by have := w.r0; show x.p % 2 ≤ 3 * x.r; omega⟩
  obtain ⟨b0', t', e0, z1, z2⟩ := v.hd
  have V1 : VS (l.map m2) := ⟨by rw [List.length_map]; exact v.len, fun x hx => by obtain ⟨y, hy, rfl⟩ := List.mem_map.mp hx; exact m0 y hy, by rw [List.pairwise_map]; exact v.inc, ⟨m2 b0', t'.map m2, by rw [e0]; rfl, z1, z2⟩⟩
  have hk : (1 + a) * (2 + b) ≤ 20 := Int.le_trans (Int.mul_le_mul_of_nonneg_left (by omega) (by omega)) hq2
  refine ⟨l.map m2, 2 + b, V1, fun x hx => ?_, by omega, ⟨by rw [List.length_map]; exact V1.len, fun x hx => ?_, ?_, ?_⟩, rfl⟩
  · obtain ⟨y, hy, rfl⟩ := List.mem_map.mp hx
    show y.p % 2 = 0 ∨ y.p % 2 = 1
    omega
  · obtain ⟨y, hy, rfl⟩ := List.mem_map.mp hx
    obtain ⟨z, hz, rfl⟩ := List.mem_map.mp hy
    have w := m0 z hz
    have hz' := hb z hz
    have w1 := w.s0
    have w5 := w.r0
    have w7 := w.p0
    have r1 : (2 + b) * z.r ≤ 20 := Int.le_trans (Int.mul_le_mul_of_nonneg_left hz'.1 (by omega)) (by rw [Int.mul_comm]; exact hk)
    have r2 : 1 ≤ (2 + b) * z.r := by
      have : 1 * 1 ≤ (2 + b) * z.r := Int.mul_le_mul (by omega) w5 (by decide) (by omega)
      omega
    have sle : (2 + b) * z.s ≤ 20 * 9 := Int.mul_le_mul (by omega) hz'.2 w1 (by decide)
    have s0 : 0 ≤ (2 + b) * z.s := Int.mul_nonneg (by omega) w1
    have p2 : z.p % 2 ≤ 1 := by omega
    exact ⟨s0, by show (2 + b) * z.s ≤ 400; omega, w.b0, w.b1, r2, r1, w7, by show z.p % 2 ≤ 3 * ((2 + b) * z.r); omega⟩
  · rw [List.pairwise_map]
    exact V1.inc.imp fun h => Int.mul_lt_mul_of_pos_left h (by omega)
  · exact ⟨strB (2 + b) (m2 b0'), (t'.map m2).map (strB (2 + b)), by rw [e0]; rfl, by show (2 + b) * b0'.s = 0; rw [z1]; omega, z2⟩
end LW
end
section
set_option maxHeartbeats 1000000
namespace LW
open PySem PV
theorem eq_t2 {a b : Int} : cmpT .eq (.tup [.int a, .int b]) (.tup [.int a, .int b]) = .ret true := by
  show deq _ _ = _
  unfold deq
  simp [okPy, D.toPy, D.toPys, SeqAt.shaped, PyData.canLay0, PyData.canLayAll0, PyData.depth, PyData.depthAll, PyData.eqv, PyData.eqvAll]
theorem ne_t2 {a b : Int} : cmpT .ne (.tup [.int a, .int b]) (.tup [.int a, .int b]) = .ret false := by
  show (deq _ _ >>= fun c => T.ret (!c)) = _
  rw [show deq (.tup [.int a, .int b]) (.tup [.int a, .int b]) = .ret true from eq_t2]
  rfl
theorem ne_t3 {a b c : Int} : cmpT .ne (.tup [.int a, .int b, .int c]) (.tup [.int a, .int b, .int c]) = .ret false := by
  show (deq _ _ >>= fun c => T.ret (!c)) = _
  have e : deq (.tup [.int a, .int b, .int c]) (.tup [.int a, .int b, .int c]) = .ret true := by
    unfold deq
    simp [okPy, D.toPy, D.toPys, SeqAt.shaped, PyData.canLay0, PyData.canLayAll0, PyData.depth, PyData.depthAll, PyData.eqv, PyData.eqvAll]
  rw [e]
  rfl
theorem ne_o {o : Option (Int × Int)} : cmpT .ne (optD o) (optD o) = .ret false := by
  cases o with
  | some x => exact ne_t2
  | none =>
    show (deq .non .non >>= fun c => T.ret (!c)) = _
    have e : deq .non .non = .ret true := by
      unfold deq
      simp [okPy, D.toPy, SeqAt.shaped, PyData.canLay0, PyData.depth, PyData.eqv]
    rw [e]
    rfl
theorem vs_step {s b : Int} (h1 : 2 ≤ s) (h2 : s ≤ 400) (h3 : 1 ≤ b) (h4 : b ≤ 2000) : VS (sStep s b) := by
  refine ⟨(by show 2 ≤ 6; decide), fun k hk => ?_, ?_, ⟨_, _, rfl, rfl, rfl⟩⟩
  · simp [sStep] at hk
    rcases hk with rfl | rfl
    · exact ⟨by decide, by decide, by decide, by decide, by decide, by decide, by decide, by decide⟩
    · exact ⟨by show 0 ≤ s; omega, h2, by show 0 ≤ b; omega, h4, (by decide : (1 : Int) ≤ 1), (by decide : (1 : Int) ≤ 20), (by decide : (0 : Int) ≤ 0), (by decide : (0 : Int) ≤ 3 * 1)⟩
  · simp [sStep]
    omega
theorem vs_own {s p r : Int} (h1 : 2 ≤ s) (h2 : s ≤ 380) (h3 : 1 ≤ r) (h4 : r ≤ 20) (h5 : 1 ≤ p) (h6 : p ≤ 3 * r) : VS (sOwn s p r) := by
  refine ⟨(by show 2 ≤ 6; decide), fun k hk => ?_, ?_, ⟨_, _, rfl, rfl, rfl⟩⟩
  · simp [sOwn] at hk
    rcases hk with rfl | rfl
    · exact ⟨by decide, by decide, by decide, by decide, by decide, by decide, by decide, by decide⟩
    · exact ⟨by show 0 ≤ s; omega, by show s ≤ 400; omega, (by decide : (0 : Int) ≤ 0), (by decide : (0 : Int) ≤ 2000), h3, h4, by show 0 ≤ p; omega, h6⟩
  · simp [sOwn]
    omega
theorem f18c {n : Nat} {c : Nat → List D → T D} (hc : c = callF tab WH (n + 2 + 3)) : (c 18 [.sta, .int 400]).All0 (fun d => ∃ s b, 2 ≤ s ∧ s ≤ 400 ∧ 1 ≤ b ∧ b ≤ 2000 ∧ d = .tup [scD (sStep s b), .int s, .int b]) fun _ => False := by
  subst hc
  exact @f18 (n + 2)
theorem f19c {n : Nat} {c : Nat → List D → T D} (hc : c = callF tab WH (n + 2 + 3)) : (c 19 [.sta, .int 380]).All0 (fun d => ∃ s p r, 2 ≤ s ∧ s ≤ 380 ∧ 1 ≤ r ∧ r ≤ 20 ∧ 1 ≤ p ∧ p ≤ 3 * r ∧ d = .tup [scD (sOwn s p r), .int s, .int p, .int r]) fun _ => False := by
  subst hc
  exact @f19 (n + 2)
section
variable {n : Nat} {c : Nat → List D → T D} {l : List Br} {k : Br}
theorem f11c (hc : c = callF tab WH (n + 5)) (v : VS (l ++ [k])) : c 11 [scD (l ++ [k])] = .ret (optD ((LP (k.s + k.r)).find? (hit (pay (l ++ [k])) 1 1))) := by
  subst hc
  exact f11 v
theorem f12c (hc : c = callF tab WH (n + 5)) (v : VS (l ++ [k])) : c 12 [scD (l ++ [k])] = .ret (optD ((LP (k.s + k.r)).find? (hit (pay (l ++ [k])) (-1) 1))) := by
  subst hc
  exact f12 v
theorem f13c (hc : c = callF tab WH (n + 5)) (v : VS (l ++ [k])) {x : Int × Int} (hx : (LP (k.s + k.r)).find? (hit (pay (l ++ [k])) 1 (bigM (pay (l ++ [k])) 1 (k.s + k.r))) = some x) : c 13 [scD (l ++ [k])] = .ret (mostD (bigM (pay (l ++ [k])) 1 (k.s + k.r)) x) := by
  subst hc
  exact f13 v hx
theorem f14c (hc : c = callF tab WH (n + 5)) (v : VS (l ++ [k])) {x : Int × Int} (hx : (LP (k.s + k.r)).find? (hit (pay (l ++ [k])) (-1) (bigM (pay (l ++ [k])) (-1) (k.s + k.r))) = some x) : c 14 [scD (l ++ [k])] = .ret (mostD (bigM (pay (l ++ [k])) (-1) (k.s + k.r)) x) := by
  subst hc
  exact f14 v hx
end
theorem f24 {n : Nat} : (callF tab WH (n + 6) 24 [.sta]).All0 (fun d => d = .bl true) fun _ => False := by
  show (runD (callF tab WH (n + 5)) WH d24 [.sta]).All0 _ _
  generalize hc : callF tab WH (n + 5) = c
  have hc := hc.symm
  rw [run_eq rfl]
  simp only [d24, startE]
  simp only [e_non, e_bl, e_int, e_str, e_var, e_con, e_bin, e_neg, e_cmp, e_chain, e_and, e_or, e_not, e_ite, e_tup, e_lst, e_idx, e_slc, e_call, e_callK, e_blt, e_isk, b_var, b_cmp, b_chain, b_and, b_or, b_not, b_yes, b_call, b_callK, b_blt, b_isk, a_nil, a_cons, r_nil, r_cons, o_nopart, o_part, i_rng1, i_rng2, i_zip, i_enum, i_cap, i_var, i_blt, i_call, i_tup, i_lst, i_idx, i_slc, q_add, q_sub, q_neg, q_lt, q_le, q_gt, q_ge, q_eqI, q_neI, q_isNN, q_isNT, q_isNI, q_isNL, q_isnNN, q_isnNT, q_isnNI, q_isnNL, q_andT, q_andF, q_orT, q_orF, q_not, q_toB, q_part, q_fzI, q_fzB, q_fzS, q_fzN, q_fzT, q_fzL, q_fzW, q_fzSt, q_fzSc, s_nil, s_cons, k_nx, k_rt, k_bk, k_ct, s_asg, s_asgF, s_asgT, k_asg, s_par, s_expr, s_iff, s_retN, s_raise, s_brk, s_cont, s_pass, s_frz, k_frzO, k_frzV, s_retV, k_retO, k_retV, s_ret_non, s_ret_bl, s_ret_int, s_ret_str, s_ret_con, s_ret_bin, s_ret_neg, s_ret_cmp, s_ret_chain, s_ret_and, s_ret_or, s_ret_not, s_ret_ite, s_ret_tup, s_ret_lst, s_ret_idx, s_ret_slc, s_ret_call, s_ret_callK, s_ret_blt, s_ret_isk, s_ret_comp, s_app, k_runR, k_runN, for_nil, k_forN, k_forC, k_forB, k_forR, g_nm, g_tp, o_some, noErr_ret, retK, ret_bind, err_bind, bad_bind, draw_bind, getV, slOf, slO, setAll, parT, List.length_cons, List.length_nil, List.map_cons, List.map_nil, List.getElem?_cons_zero, List.getElem?_cons_succ, List.set_cons_zero, List.set_cons_succ, List.cons_append, List.nil_append, List.replicate_succ, List.replicate_zero, bind_assoc']
  rw [all0_bind]
  refine All0.mono (@f18c n c hc) (fun d hd => ?_) fun _ e => e
  obtain ⟨s, b, s1, s2, b1, b2, rfl⟩ := hd
  have v := vs_step s1 s2 b1 b2
  have hf : ∀ x, 0 ≤ x → pay (sStep s b) x = stepF s b x := fun x hx => pay_step hx
  have e11 := f11c (n := n) hc v
  have e12 := f12c (n := n) hc v
  rw [show (LP ((⟨s, b, 0, 1⟩ : Br).s + (⟨s, b, 0, 1⟩ : Br).r)).find? (hit (pay ([⟨0, 0, 0, 1⟩] ++ [⟨s, b, 0, 1⟩])) 1 1) = _ from step_split s1 b1 hf 1 (by decide) b1] at e11
  rw [show (LP ((⟨s, b, 0, 1⟩ : Br).s + (⟨s, b, 0, 1⟩ : Br).r)).find? (hit (pay ([⟨0, 0, 0, 1⟩] ++ [⟨s, b, 0, 1⟩])) (-1) 1) = _ from step_join s1 b1 hf 1 (by decide) b1] at e12
  obtain ⟨M1, M2⟩ := step_max s1 b1 hf
  have M1 : bigM (pay ([⟨0, 0, 0, 1⟩] ++ [⟨s, b, 0, 1⟩])) 1 ((⟨s, b, 0, 1⟩ : Br).s + (⟨s, b, 0, 1⟩ : Br).r) = b := M1
  have M2 : bigM (pay ([⟨0, 0, 0, 1⟩] ++ [⟨s, b, 0, 1⟩])) (-1) ((⟨s, b, 0, 1⟩ : Br).s + (⟨s, b, 0, 1⟩ : Br).r) = b := M2
  have e13 := f13c (n := n) hc v (x := (2 * s, s)) (by rw [M1]; exact step_split s1 b1 hf b b1 (Int.le_refl _))
  have e14 := f14c (n := n) hc v (x := (s, 1)) (by rw [M2]; exact step_join s1 b1 hf b b1 (Int.le_refl _))
  rw [M1] at e13
  rw [M2] at e14
  have fz1 : fz (scD (sStep s b)) = .ret (scD (sStep s b)) := rfl
  have e11 : c 11 [scD (sStep s b)] = .ret (.tup [.int s, .int s]) := e11.trans (by show T.ret (D.tup [.int s, .int (2 * s - s)]) = _; rw [show 2 * s - s = s by omega])
  have e13 : c 13 [scD (sStep s b)] = .ret (.tup [.int b, .int s, .int s]) := e13.trans (by show T.ret (D.tup [.int b, .int s, .int (2 * s - s)]) = _; rw [show 2 * s - s = s by omega])
  have e12 : c 12 [scD (sStep s b)] = .ret (.tup [.int 1, .int (s - 1)]) := e12
  have e14 : c 14 [scD (sStep s b)] = .ret (.tup [.int b, .int 1, .int (s - 1)]) := e14
  simp only [e_non, e_bl, e_int, e_str, e_var, e_con, e_bin, e_neg, e_cmp, e_chain, e_and, e_or, e_not, e_ite, e_tup, e_lst, e_idx, e_slc, e_call, e_callK, e_blt, e_isk, b_var, b_cmp, b_chain, b_and, b_or, b_not, b_yes, b_call, b_callK, b_blt, b_isk, a_nil, a_cons, r_nil, r_cons, o_nopart, o_part, i_rng1, i_rng2, i_zip, i_enum, i_cap, i_var, i_blt, i_call, i_tup, i_lst, i_idx, i_slc, q_add, q_sub, q_neg, q_lt, q_le, q_gt, q_ge, q_eqI, q_neI, q_isNN, q_isNT, q_isNI, q_isNL, q_isnNN, q_isnNT, q_isnNI, q_isnNL, q_andT, q_andF, q_orT, q_orF, q_not, q_toB, q_part, q_fzI, q_fzB, q_fzS, q_fzN, q_fzT, q_fzL, q_fzW, q_fzSt, q_fzSc, s_nil, s_cons, k_nx, k_rt, k_bk, k_ct, s_asg, s_asgF, s_asgT, k_asg, s_par, s_expr, s_iff, s_retN, s_raise, s_brk, s_cont, s_pass, s_frz, k_frzO, k_frzV, s_retV, k_retO, k_retV, s_ret_non, s_ret_bl, s_ret_int, s_ret_str, s_ret_con, s_ret_bin, s_ret_neg, s_ret_cmp, s_ret_chain, s_ret_and, s_ret_or, s_ret_not, s_ret_ite, s_ret_tup, s_ret_lst, s_ret_idx, s_ret_slc, s_ret_call, s_ret_callK, s_ret_blt, s_ret_isk, s_ret_comp, s_app, k_runR, k_runN, for_nil, k_forN, k_forC, k_forB, k_forR, g_nm, g_tp, o_some, noErr_ret, retK, ret_bind, err_bind, bad_bind, draw_bind, getV, slOf, slO, setAll, parT, List.length_cons, List.length_nil, List.map_cons, List.map_nil, List.getElem?_cons_zero, List.getElem?_cons_succ, List.set_cons_zero, List.set_cons_succ, List.cons_append, List.nil_append, List.replicate_succ, List.replicate_zero, bind_assoc', fz1, e11, e12, e13, e14, t2, t3, ne_t2, ne_t3, Bool.false_eq_true, if_false]
  rw [all0_bind]
  refine All0.mono (@f19c n c hc) (fun d hd => ?_) fun _ e => e
  obtain ⟨s', p, r, s1', s2', r1, r2, p1, p2, rfl⟩ := hd
  have v' := vs_own s1' s2' r1 r2 p1 p2
  have hf' : ∀ x, 0 ≤ x → pay (sOwn s' p r) x = ownF s' p r x := fun x hx => pay_own hx
  have e11 := f11c (n := n) hc v'
  have e12 := f12c (n := n) hc v'
  rw [show (LP ((⟨s', 0, p, r⟩ : Br).s + (⟨s', 0, p, r⟩ : Br).r)).find? (hit (pay ([⟨0, 0, 0, 1⟩] ++ [⟨s', 0, p, r⟩])) 1 1) = _ from own_none s1' p1 r1 hf'] at e11
  rw [show (LP ((⟨s', 0, p, r⟩ : Br).s + (⟨s', 0, p, r⟩ : Br).r)).find? (hit (pay ([⟨0, 0, 0, 1⟩] ++ [⟨s', 0, p, r⟩])) (-1) 1) = _ from own_join s1' p1 r1 hf'] at e12
  obtain ⟨M1, M2⟩ := own_max s1' p1 r1 hf'
  have M1 : bigM (pay ([⟨0, 0, 0, 1⟩] ++ [⟨s', 0, p, r⟩])) 1 ((⟨s', 0, p, r⟩ : Br).s + (⟨s', 0, p, r⟩ : Br).r) = 0 := M1
  have e13 := f13c (n := n) hc v' (x := (2, 1)) (by rw [M1]; exact M2)
  rw [M1] at e13
  have fz2 : fz (scD (sOwn s' p r)) = .ret (scD (sOwn s' p r)) := rfl
  have e11 : c 11 [scD (sOwn s' p r)] = .ret .non := e11
  have e13 : c 13 [scD (sOwn s' p r)] = .ret (.tup [.int 0, .int 1, .int 1]) := e13
  have e12 : c 12 [scD (sOwn s' p r)] = .ret (.tup [.int 1, .int (s' + (r + p - 1) / p - 1)]) := e12
  have q := q_fdiv (i := r + p - 1) (j := p) (by omega) (by omega)
  simp only [e_non, e_bl, e_int, e_str, e_var, e_con, e_bin, e_neg, e_cmp, e_chain, e_and, e_or, e_not, e_ite, e_tup, e_lst, e_idx, e_slc, e_call, e_callK, e_blt, e_isk, b_var, b_cmp, b_chain, b_and, b_or, b_not, b_yes, b_call, b_callK, b_blt, b_isk, a_nil, a_cons, r_nil, r_cons, o_nopart, o_part, i_rng1, i_rng2, i_zip, i_enum, i_cap, i_var, i_blt, i_call, i_tup, i_lst, i_idx, i_slc, q_add, q_sub, q_neg, q_lt, q_le, q_gt, q_ge, q_eqI, q_neI, q_isNN, q_isNT, q_isNI, q_isNL, q_isnNN, q_isnNT, q_isnNI, q_isnNL, q_andT, q_andF, q_orT, q_orF, q_not, q_toB, q_part, q_fzI, q_fzB, q_fzS, q_fzN, q_fzT, q_fzL, q_fzW, q_fzSt, q_fzSc, s_nil, s_cons, k_nx, k_rt, k_bk, k_ct, s_asg, s_asgF, s_asgT, k_asg, s_par, s_expr, s_iff, s_retN, s_raise, s_brk, s_cont, s_pass, s_frz, k_frzO, k_frzV, s_retV, k_retO, k_retV, s_ret_non, s_ret_bl, s_ret_int, s_ret_str, s_ret_con, s_ret_bin, s_ret_neg, s_ret_cmp, s_ret_chain, s_ret_and, s_ret_or, s_ret_not, s_ret_ite, s_ret_tup, s_ret_lst, s_ret_idx, s_ret_slc, s_ret_call, s_ret_callK, s_ret_blt, s_ret_isk, s_ret_comp, s_app, k_runR, k_runN, for_nil, k_forN, k_forC, k_forB, k_forR, g_nm, g_tp, o_some, noErr_ret, retK, ret_bind, err_bind, bad_bind, draw_bind, getV, slOf, slO, setAll, parT, List.length_cons, List.length_nil, List.map_cons, List.map_nil, List.getElem?_cons_zero, List.getElem?_cons_succ, List.set_cons_zero, List.set_cons_succ, List.cons_append, List.nil_append, List.replicate_succ, List.replicate_zero, bind_assoc', fz2, e11, e12, e13, t2, t3, ne_t3, eq_t2, q, Bool.false_eq_true, if_false]
  rfl
end LW
end
section
set_option maxHeartbeats 400000
namespace LW
open PySem PV
theorem first_min {f : Int → Int} {a r : Int} (P : Per f a r) {x : Int × Int} (h : (LP (a + r)).find? (hit f 1 1) = some x) {u v : Int} (hu : 1 ≤ u) (hv : 1 ≤ v) (hg : 1 ≤ gn f u v) : x.1 ≤ u + v := by
  have r1 := P.r1
  have a0 := P.a0
  have e := first_eq P (Q := max (a + r) (u + v)) (by omega) 1 1
  rw [h] at e
  obtain ⟨_, _, h3⟩ := find_first pairs_sorted e.symm
  rcases h3 (u + v, u) (mem_pairs.mpr ⟨by show 2 ≤ u + v; omega, by show u + v < _; omega, hu, by show u < u + v; omega⟩) (by
    unfold hit
    show decide (1 * gn f u (u + v - u) ≥ 1) = true
    rw [show u + v - u = v by omega]
    exact decide_eq_true (by omega)) with q | q
  · rw [← q]; exact Int.le_refl _
  · rcases q with q | q
    · have : x.1 < u + v := q
      omega
    · have : x.1 = u + v := q.1
      omega
theorem first_none {f : Int → Int} {a r : Int} (P : Per f a r) (h : (LP (a + r)).find? (hit f 1 1) = none) {u v : Int} (hu : 1 ≤ u) (hv : 1 ≤ v) : gn f u v ≤ 0 := by
  have e := first_eq P (Q := max (a + r) (u + v)) (by omega) 1 1
  rw [h] at e
  have e := List.find?_eq_none.mp e.symm (u + v, u) (mem_pairs.mpr ⟨by show 2 ≤ u + v; omega, by show u + v < _; omega, hu, by show u < u + v; omega⟩)
  unfold hit at e
  have e : ¬ decide (1 * gn f u (u + v - u) ≥ 1) = true := e
  rw [show u + v - u = v by omega, decide_eq_true_eq] at e
  omega
theorem f17c {n : Nat} {c : Nat → List D → T D} (hc : c = callF tab WH (n + 3)) {top width : Int} (h1 : 1 ≤ top) (h2 : top ≤ 400) (w1 : 1 ≤ width) (w2 : width ≤ 20) : (c 17 [.sta, .int top, .int width]).All0 (fun d => ∃ l, d = scD l ∧ VS l ∧ ∀ k ∈ l, k.r ≤ width ∧ k.s ≤ top) fun _ => False := by
  subst hc
  have e : callF tab WH (n + 3) 17 [.sta, .int top, .int width] = runD (callF tab WH (n + 2)) WH d17 [.sta, .int top, .int width] := rfl
  rw [e]
  generalize hc : callF tab WH (n + 2) = c
  have q := f17r hc.symm h1 h2 w1 w2
  assumption
theorem f20c {n : Nat} {c : Nat → List D → T D} (hc : c = callF tab WH (n + 4)) : (c 20 [.sta]).All0 (fun d => ∃ l k, VS l ∧ (∀ x ∈ l, x.p = 0 ∨ x.p = 1) ∧ 2 ≤ k ∧ VS (l.map (strB k)) ∧ d = .tup [scD l, .int k, scD (l.map (strB k))]) fun _ => False := by
  subst hc
  exact @f20 n
theorem f22y {n : Nat} {c : Nat → List D → T D} (hc : c = callF tab WH (n + 4)) {l : List Br} (hv : ∀ k ∈ l, VR k) {sg M : Int} {x : Int × Int} (s1 : -100 < sg) (s2 : sg < 100) (h : ∀ a b, 1 ≤ a → 1 ≤ b → sg * gn (pay l) a b ≤ M) : Yes (fun d => d = .bl true) (c 22 [.sta, scD l, mostD M x, .int sg]) := by
  subst hc
  exact Yes.of_eq rfl (f22r (n := n) rfl hv s1 s2 h)
theorem f22c {n : Nat} {c : Nat → List D → T D} (hc : c = callF tab WH (n + 4)) {l : List Br} (hv : ∀ k ∈ l, VR k) {sg M : Int} {x : Int × Int} (s1 : -100 < sg) (s2 : sg < 100) (h : ∀ a b, 1 ≤ a → 1 ≤ b → sg * gn (pay l) a b ≤ M) : (c 22 [.sta, scD l, mostD M x, .int sg]).All0 (fun d => d = .bl true) fun _ => False := Yes.all (f22y hc hv s1 s2 h)
theorem f23y {n : Nat} {c : Nat → List D → T D} (hc : c = callF tab WH (n + 4)) {l : List Br} (hv : ∀ k ∈ l, VR k) (h : ∀ a b, 1 ≤ a → 1 ≤ b → gn (pay l) a b ≤ 0) : Yes (fun d => d = .bl true) (c 23 [.sta, scD l]) := by
  subst hc
  exact Yes.of_eq rfl (f23r (n := n) rfl hv h)
theorem f23c {n : Nat} {c : Nat → List D → T D} (hc : c = callF tab WH (n + 4)) {l : List Br} (hv : ∀ k ∈ l, VR k) (h : ∀ a b, 1 ≤ a → 1 ≤ b → gn (pay l) a b ≤ 0) : (c 23 [.sta, scD l]).All0 (fun d => d = .bl true) fun _ => False := Yes.all (f23y hc hv h)
theorem f24c {n : Nat} {c : Nat → List D → T D} (hc : c = callF tab WH (n + 6)) : (c 24 [.sta]).All0 (fun d => d = .bl true) fun _ => False := by
  subst hc
  exact @f24 n
theorem f16c {n : Nat} {c : Nat → List D → T D} (hc : c = callF tab WH (n + 1)) {l : List Br} {a : Int} (h : ∀ k ∈ l, VR k) : c 16 [scD l, .int a] = .ret (.int (pay l a)) := by
  subst hc
  exact f16 h
theorem f21c {n : Nat} {c : Nat → List D → T D} (hc : c = callF tab WH (n + 2)) {l : List Br} {k : Br} (z : Sz l k) {sg : Int} (s1 : -100 < sg) (s2 : sg < 100) :
    ∃ M x, c 21 [scD (l ++ [k]), .int sg] = .ret (.tup [optD ((LP (k.s + k.r)).find? (hit (pay (l ++ [k])) sg 1)), mostD M x]) ∧ M = bigM (pay (l ++ [k])) sg (k.s + k.r) ∧ (LP (k.s + k.r)).find? (hit (pay (l ++ [k])) sg M) = some x := by
  subst hc
  have r1 := z.r1
  have s0 := z.s0
  obtain ⟨M, x, e, h1, h2, h3⟩ := due_ok (f := pay (l ++ [k])) (sg := sg) (LL (k.s + 2 * k.r)) (by
    intro e
    have : ((2, 1) : Int × Int) ∈ LL (k.s + 2 * k.r) := mem_pairs.mpr ⟨by decide, by show 2 < 2 * (k.s + 2 * k.r) + 1; omega, by decide, by decide⟩
    rw [e] at this
    cases this)
  obtain ⟨m1, m2⟩ := due_most z.per (Q := k.s + 2 * k.r) (by omega) h1 h2 h3
  refine ⟨M, x, ?_, m1, m2⟩
  rw [f21 z s1 s2, e, ← first_eq z.per (Q := k.s + 2 * k.r) (by omega) sg 1]
  rfl
theorem sum_t2 {a b : Int} : bltT .sum [.tup [.int a, .int b]] = .ret (.int (a + b)) := by
  show T.ret (D.int ([a, b].sum)) = _
  simp
theorem f25 {n : Nat} {c : Nat → List D → T D} (hc : c = callF tab WH (n + 5)) : Yes (fun d => d = .bl true) (runD c WH d25 [.sta]) := by
  constructor
  rw [run_eq rfl]
  simp only [d25, startE]
  simp only [e_non, e_bl, e_int, e_str, e_var, e_con, e_bin, e_neg, e_cmp, e_chain, e_and, e_or, e_not, e_ite, e_tup, e_lst, e_idx, e_slc, e_call, e_callK, e_blt, e_isk, b_var, b_cmp, b_chain, b_and, b_or, b_not, b_yes, b_call, b_callK, b_blt, b_isk, a_nil, a_cons, r_nil, r_cons, o_nopart, o_part, i_rng1, i_rng2, i_zip, i_enum, i_cap, i_var, i_blt, i_call, i_tup, i_lst, i_idx, i_slc, q_add, q_sub, q_neg, q_lt, q_le, q_gt, q_ge, q_eqI, q_neI, q_isNN, q_isNT, q_isNI, q_isNL, q_isnNN, q_isnNT, q_isnNI, q_isnNL, q_andT, q_andF, q_orT, q_orF, q_not, q_toB, q_part, q_fzI, q_fzB, q_fzS, q_fzN, q_fzT, q_fzL, q_fzW, q_fzSt, q_fzSc, s_nil, s_cons, k_nx, k_rt, k_bk, k_ct, s_asg, s_asgF, s_asgT, k_asg, s_par, s_expr, s_iff, s_retN, s_raise, s_brk, s_cont, s_pass, s_frz, k_frzO, k_frzV, s_retV, k_retO, k_retV, s_ret_non, s_ret_bl, s_ret_int, s_ret_str, s_ret_con, s_ret_bin, s_ret_neg, s_ret_cmp, s_ret_chain, s_ret_and, s_ret_or, s_ret_not, s_ret_ite, s_ret_tup, s_ret_lst, s_ret_idx, s_ret_slc, s_ret_call, s_ret_callK, s_ret_blt, s_ret_isk, s_ret_comp, s_app, k_runR, k_runN, for_nil, k_forN, k_forC, k_forB, k_forR, g_nm, g_tp, o_some, noErr_ret, Yes, retK, ret_bind, err_bind, bad_bind, draw_bind, getV, slOf, slO, setAll, parT, List.length_cons, List.length_nil, List.map_cons, List.map_nil, List.getElem?_cons_zero, List.getElem?_cons_succ, List.set_cons_zero, List.set_cons_succ, List.cons_append, List.nil_append, List.replicate_succ, List.replicate_zero, bind_assoc']
  rw [all0_bind]
  refine All0.mono (@f20c (n + 1) c hc) (fun d hd => ?_) fun _ e => e
  obtain ⟨l, k, v, hp, k2, vL, rfl⟩ := hd
  obtain ⟨m, b, rfl, hb⟩ := v.last
  have z := v.sz
  have vL' : VS (m.map (strB k) ++ [strB k b]) := by rw [List.map_append] at vL; exact vL
  have zL := vL'.sz
  obtain ⟨M, x, e21, _, _⟩ := f21c (n := n + 3) (c := c) hc z (sg := 1) (by decide) (by decide)
  have e11 := f11c (n := n) (c := c) hc vL'
  have eL : scD ((m ++ [b]).map (strB k)) = scD (m.map (strB k) ++ [strB k b]) := by rw [List.map_append]; rfl
  have hr1 : ∀ x ∈ m ++ [b], 1 ≤ x.r ∧ (x.p = 0 ∨ x.p = 1) := fun x hx => ⟨(v.vb x hx).r0, hp x hx⟩
  have hL : ∀ a, pay (m.map (strB k) ++ [strB k b]) a = pay (m ++ [b]) (a / k) := fun a => by
    have := pay_str (k := k) (by omega) hr1 a
    rw [List.map_append] at this
    exact this
  have fe : pay (m.map (strB k) ++ [strB k b]) = fun a => pay (m ++ [b]) (a / k) := funext hL
  obtain ⟨T1, T2⟩ := str_total (f := pay (m ++ [b])) (pay_zero v) (pay_nn v.vb) (k := k) (by omega)
  have P := z.per
  have PL := zL.per
  have fz1 : fz (scD (m ++ [b])) = .ret (scD (m ++ [b])) := rfl
  have fz2 : fz (scD (m.map (strB k) ++ [strB k b])) = .ret (scD (m.map (strB k) ++ [strB k b])) := rfl
  have i0 : ∀ a b : D, idxT (.tup [a, b]) (.int 0) = .ret a := fun _ _ => rfl
  have i1 : ∀ a b : D, idxT (.tup [a, b]) (.int 1) = .ret b := fun _ _ => rfl
  have so : ∀ o, slO (optD o) = some (.val (optD o)) := fun o => by cases o <;> rfl
  have g16 := fun a => f16c (n := n + 4) (c := c) hc (l := m.map (strB k) ++ [strB k b]) (a := a) fun x hx => (vL'.vb x hx).vr
  rw [eL]
  cases F1 : (LP (b.s + b.r)).find? (hit (pay (m ++ [b])) 1 1) with
  | none =>
    cases F2 : (LP ((strB k b).s + (strB k b).r)).find? (hit (pay (m.map (strB k) ++ [strB k b])) 1 1) with
    | none =>
      rw [F1] at e21
      rw [F2] at e11
      simp only [optD] at e21 e11
      simp only [e_non, e_bl, e_int, e_str, e_var, e_con, e_bin, e_neg, e_cmp, e_chain, e_and, e_or, e_not, e_ite, e_tup, e_lst, e_idx, e_slc, e_call, e_callK, e_blt, e_isk, b_var, b_cmp, b_chain, b_and, b_or, b_not, b_yes, b_call, b_callK, b_blt, b_isk, a_nil, a_cons, r_nil, r_cons, o_nopart, o_part, i_rng1, i_rng2, i_zip, i_enum, i_cap, i_var, i_blt, i_call, i_tup, i_lst, i_idx, i_slc, q_add, q_sub, q_neg, q_lt, q_le, q_gt, q_ge, q_eqI, q_neI, q_isNN, q_isNT, q_isNI, q_isNL, q_isnNN, q_isnNT, q_isnNI, q_isnNL, q_andT, q_andF, q_orT, q_orF, q_not, q_toB, q_part, q_fzI, q_fzB, q_fzS, q_fzN, q_fzT, q_fzL, q_fzW, q_fzSt, q_fzSc, s_nil, s_cons, k_nx, k_rt, k_bk, k_ct, s_asg, s_asgF, s_asgT, k_asg, s_par, s_expr, s_iff, s_retN, s_raise, s_brk, s_cont, s_pass, s_frz, k_frzO, k_frzV, s_retV, k_retO, k_retV, s_ret_non, s_ret_bl, s_ret_int, s_ret_str, s_ret_con, s_ret_bin, s_ret_neg, s_ret_cmp, s_ret_chain, s_ret_and, s_ret_or, s_ret_not, s_ret_ite, s_ret_tup, s_ret_lst, s_ret_idx, s_ret_slc, s_ret_call, s_ret_callK, s_ret_blt, s_ret_isk, s_ret_comp, s_app, k_runR, k_runN, for_nil, k_forN, k_forC, k_forB, k_forR, g_nm, g_tp, o_some, noErr_ret, Yes, retK, ret_bind, err_bind, bad_bind, draw_bind, getV, slOf, slO, setAll, parT, List.length_cons, List.length_nil, List.map_cons, List.map_nil, List.getElem?_cons_zero, List.getElem?_cons_succ, List.set_cons_zero, List.set_cons_succ, List.cons_append, List.nil_append, List.replicate_succ, List.replicate_zero, bind_assoc', fz1, fz2, e21, e11, i0, if_true]
      rfl
    | some y =>
      exfalso
      have q := (find_first pairs_sorted F2)
      have hm := mem_pairs.mp q.2.1
      have hg := of_decide_eq_true q.1
      rw [fe] at hg
      obtain ⟨u, w, u1, w1, g1, _⟩ := T1 y.2 (y.1 - y.2) (by omega) (by omega) (by omega)
      have := first_none P F1 u1 w1
      omega
  | some x1 =>
    have q1 := find_first pairs_sorted F1
    have hm1 := mem_pairs.mp q1.2.1
    have hg1 := of_decide_eq_true q1.1
    have gk := T2 x1.2 (x1.1 - x1.2) (by omega) (by omega)
    have k1 : 1 ≤ k * x1.2 := by have := Int.mul_le_mul (show (1 : Int) ≤ k by omega) (show 1 ≤ x1.2 by omega) (by decide) (by omega); omega
    have k3 : 1 ≤ k * (x1.1 - x1.2) := by have := Int.mul_le_mul (show (1 : Int) ≤ k by omega) (show 1 ≤ x1.1 - x1.2 by omega) (by decide) (by omega); omega
    cases F2 : (LP ((strB k b).s + (strB k b).r)).find? (hit (pay (m.map (strB k) ++ [strB k b])) 1 1) with
    | none =>
      exfalso
      have := first_none PL F2 k1 k3
      rw [fe, gk] at this
      omega
    | some y =>
      have q2 := find_first pairs_sorted F2
      have hm2 := mem_pairs.mp q2.2.1
      have hg2 := of_decide_eq_true q2.1
      have up : y.1 ≤ k * x1.1 := by
        have := first_min PL F2 k1 k3 (by rw [fe, gk]; omega)
        rw [← Int.mul_add, show x1.2 + (x1.1 - x1.2) = x1.1 by omega] at this
        exact this
      have dn : k * x1.1 ≤ y.1 := by
        rw [fe] at hg2
        obtain ⟨u, w, u1, w1, g1, le⟩ := T1 y.2 (y.1 - y.2) (by omega) (by omega) (by omega)
        have h := first_min P F1 u1 w1 (by omega)
        have := Int.mul_le_mul_of_nonneg_left h (show 0 ≤ k by omega)
        omega
      have ey : y.1 = k * x1.1 := by omega
      rw [F1] at e21
      rw [F2] at e11
      simp only [optD, pairD] at e21 e11
      have gg : 0 < pay (m.map (strB k) ++ [strB k b]) y.2 + pay (m.map (strB k) ++ [strB k b]) (y.1 - y.2) - pay (m.map (strB k) ++ [strB k b]) (y.2 + (y.1 - y.2)) := by
        unfold gn at hg2
        omega
      have c1 : 0 < y.2 := by omega
      have c2 : y.2 ≤ y.1 - y.2 := by omega
      have qm := q_mulR (i := k) (j := x1.2 + (x1.1 - x1.2)) (by omega) (by
        have := z.lim
        have := z.r1
        have := z.s0
        have : x1.1 < 2 * (b.s + b.r) + 1 := hm1.2.1
        omega)
      have es : y.2 + (y.1 - y.2) = k * (x1.2 + (x1.1 - x1.2)) := by
        rw [show x1.2 + (x1.1 - x1.2) = x1.1 by omega, ← ey]; omega
      simp only [e_non, e_bl, e_int, e_str, e_var, e_con, e_bin, e_neg, e_cmp, e_chain, e_and, e_or, e_not, e_ite, e_tup, e_lst, e_idx, e_slc, e_call, e_callK, e_blt, e_isk, b_var, b_cmp, b_chain, b_and, b_or, b_not, b_yes, b_call, b_callK, b_blt, b_isk, a_nil, a_cons, r_nil, r_cons, o_nopart, o_part, i_rng1, i_rng2, i_zip, i_enum, i_cap, i_var, i_blt, i_call, i_tup, i_lst, i_idx, i_slc, q_add, q_sub, q_neg, q_lt, q_le, q_gt, q_ge, q_eqI, q_neI, q_isNN, q_isNT, q_isNI, q_isNL, q_isnNN, q_isnNT, q_isnNI, q_isnNL, q_andT, q_andF, q_orT, q_orF, q_not, q_toB, q_part, q_fzI, q_fzB, q_fzS, q_fzN, q_fzT, q_fzL, q_fzW, q_fzSt, q_fzSc, s_nil, s_cons, k_nx, k_rt, k_bk, k_ct, s_asg, s_asgF, s_asgT, k_asg, s_par, s_expr, s_iff, s_retN, s_raise, s_brk, s_cont, s_pass, s_frz, k_frzO, k_frzV, s_retV, k_retO, k_retV, s_ret_non, s_ret_bl, s_ret_int, s_ret_str, s_ret_con, s_ret_bin, s_ret_neg, s_ret_cmp, s_ret_chain, s_ret_and, s_ret_or, s_ret_not, s_ret_ite, s_ret_tup, s_ret_lst, s_ret_idx, s_ret_slc, s_ret_call, s_ret_callK, s_ret_blt, s_ret_isk, s_ret_comp, s_app, k_runR, k_runN, for_nil, k_forN, k_forC, k_forB, k_forR, g_nm, g_tp, o_some, noErr_ret, Yes, retK, ret_bind, err_bind, bad_bind, draw_bind, getV, slOf, slO, setAll, parT, List.length_cons, List.length_nil, List.map_cons, List.map_nil, List.getElem?_cons_zero, List.getElem?_cons_succ, List.set_cons_zero, List.set_cons_succ, List.cons_append, List.nil_append, List.replicate_succ, List.replicate_zero, bind_assoc', fz1, fz2, e21, e11, i0, i1, Bool.false_eq_true, if_false, g16, sum_t2, gg, c1, c2, decide_true, qm]
      rw [es]
      simp only [e_non, e_bl, e_int, e_str, e_var, e_con, e_bin, e_neg, e_cmp, e_chain, e_and, e_or, e_not, e_ite, e_tup, e_lst, e_idx, e_slc, e_call, e_callK, e_blt, e_isk, b_var, b_cmp, b_chain, b_and, b_or, b_not, b_yes, b_call, b_callK, b_blt, b_isk, a_nil, a_cons, r_nil, r_cons, o_nopart, o_part, i_rng1, i_rng2, i_zip, i_enum, i_cap, i_var, i_blt, i_call, i_tup, i_lst, i_idx, i_slc, q_add, q_sub, q_neg, q_lt, q_le, q_gt, q_ge, q_eqI, q_neI, q_isNN, q_isNT, q_isNI, q_isNL, q_isnNN, q_isnNT, q_isnNI, q_isnNL, q_andT, q_andF, q_orT, q_orF, q_not, q_toB, q_part, q_fzI, q_fzB, q_fzS, q_fzN, q_fzT, q_fzL, q_fzW, q_fzSt, q_fzSc, s_nil, s_cons, k_nx, k_rt, k_bk, k_ct, s_asg, s_asgF, s_asgT, k_asg, s_par, s_expr, s_iff, s_retN, s_raise, s_brk, s_cont, s_pass, s_frz, k_frzO, k_frzV, s_retV, k_retO, k_retV, s_ret_non, s_ret_bl, s_ret_int, s_ret_str, s_ret_con, s_ret_bin, s_ret_neg, s_ret_cmp, s_ret_chain, s_ret_and, s_ret_or, s_ret_not, s_ret_ite, s_ret_tup, s_ret_lst, s_ret_idx, s_ret_slc, s_ret_call, s_ret_callK, s_ret_blt, s_ret_isk, s_ret_comp, s_app, k_runR, k_runN, for_nil, k_forN, k_forC, k_forB, k_forR, g_nm, g_tp, o_some, noErr_ret, Yes, retK, ret_bind, err_bind, bad_bind, draw_bind, getV, slOf, slO, setAll, parT, List.length_cons, List.length_nil, List.map_cons, List.map_nil, List.getElem?_cons_zero, List.getElem?_cons_succ, List.set_cons_zero, List.set_cons_succ, List.cons_append, List.nil_append, List.replicate_succ, List.replicate_zero, decide_true]
      rfl

def bL : S := (.cons (.asgF 3 (.call 17 (.cons (.var 1) (.cons (.int 10) (.cons (.int 4) .nil))))) (.cons (.asgT [4, 5] (.call 21 (.cons (.var 3) (.cons (.int 1) .nil)))) (.cons (.iff (.or (.cmp .ne (.callK 11 [0] (.cons (.var 3) .nil)) (.var 4)) (.cmp .ne (.callK 13 [0] (.cons (.var 3) .nil)) (.var 5))) (.cons (.ret (.bl false)) .nil) .nil) (.cons (.iff (.or (.not (.call 22 (.cons (.var 1) (.cons (.var 3) (.cons (.var 5) (.cons (.int 1) .nil)))))) (.and (.cmp .is (.var 4) .non) (.not (.call 23 (.cons (.var 1) (.cons (.var 3) .nil)))))) (.cons (.ret (.bl false)) .nil) .nil) (.cons (.asgT [6, 5] (.call 21 (.cons (.var 3) (.cons (.neg (.int 1)) .nil)))) (.cons (.iff (.or (.cmp .ne (.callK 12 [0] (.cons (.var 3) .nil)) (.var 6)) (.cmp .ne (.callK 14 [0] (.cons (.var 3) .nil)) (.var 5))) (.cons (.ret (.bl false)) .nil) .nil) (.cons (.iff (.not (.call 22 (.cons (.var 1) (.cons (.var 3) (.cons (.var 5) (.cons (.neg (.int 1)) .nil)))))) (.cons (.ret (.bl false)) .nil) .nil) .nil)))))))
theorem permD1 {d : D} : permD [0] [d] = some [d] := rfl
theorem ne_m {M : Int} {x : Int × Int} : cmpT .ne (mostD M x) (mostD M x) = .ret false := ne_t3
def InvL (ns : List Int) (r : PV.Env) : Prop := ∃ x2 x3 x4 x5 x6, r = [.val (.scr ns), .val .sta, x2, x3, x4, x5, x6]
theorem stepL {n : Nat} {c : Nat → List D → T D} (hc : c = callF tab WH (n + 6)) {ns : List Int} (t : Int) (r : PV.Env) (hr : InvL ns r) :
    ∃ r1, bindTg (.nm 2) (.int t) r = .ret r1 ∧ (ex c WH bL r1).All0 (goP (InvL ns) (fun _ => False)) fun _ => False := by
  obtain ⟨x2, x3, x4, x5, x6, rfl⟩ := hr
  refine ⟨_, rfl, ?_⟩
  unfold bL
  simp only [e_non, e_bl, e_int, e_str, e_var, e_con, e_bin, e_neg, e_cmp, e_chain, e_and, e_or, e_not, e_ite, e_tup, e_lst, e_idx, e_slc, e_call, e_callK, e_blt, e_isk, b_var, b_cmp, b_chain, b_and, b_or, b_not, b_yes, b_call, b_callK, b_blt, b_isk, a_nil, a_cons, r_nil, r_cons, o_nopart, o_part, i_rng1, i_rng2, i_zip, i_enum, i_cap, i_var, i_blt, i_call, i_tup, i_lst, i_idx, i_slc, q_add, q_sub, q_neg, q_lt, q_le, q_gt, q_ge, q_eqI, q_neI, q_isNN, q_isNT, q_isNI, q_isNL, q_isnNN, q_isnNT, q_isnNI, q_isnNL, q_andT, q_andF, q_orT, q_orF, q_not, q_toB, q_part, q_fzI, q_fzB, q_fzS, q_fzN, q_fzT, q_fzL, q_fzW, q_fzSt, q_fzSc, s_nil, s_cons, k_nx, k_rt, k_bk, k_ct, s_asg, s_asgF, s_asgT, k_asg, s_par, s_expr, s_iff, s_retN, s_raise, s_brk, s_cont, s_pass, s_frz, k_frzO, k_frzV, s_retV, k_retO, k_retV, s_ret_non, s_ret_bl, s_ret_int, s_ret_str, s_ret_con, s_ret_bin, s_ret_neg, s_ret_cmp, s_ret_chain, s_ret_and, s_ret_or, s_ret_not, s_ret_ite, s_ret_tup, s_ret_lst, s_ret_idx, s_ret_slc, s_ret_call, s_ret_callK, s_ret_blt, s_ret_isk, s_ret_comp, s_app, k_runR, k_runN, for_nil, k_forN, k_forC, k_forB, k_forR, g_nm, g_tp, o_some, noErr_ret, Yes, retK, ret_bind, err_bind, bad_bind, draw_bind, getV, slOf, slO, setAll, parT, List.length_cons, List.length_nil, List.map_cons, List.map_nil, List.getElem?_cons_zero, List.getElem?_cons_succ, List.set_cons_zero, List.set_cons_succ, List.cons_append, List.nil_append, List.replicate_succ, List.replicate_zero, bind_assoc']
  rw [all0_bind]
  refine All0.mono (f17c (n := n + 3) (c := c) hc (top := 10) (width := 4) (by decide) (by decide) (by decide) (by decide)) (fun d hd => ?_) fun _ e => e
  obtain ⟨l, rfl, v, _⟩ := hd
  obtain ⟨m, b, rfl, hb⟩ := v.last
  have z := v.sz
  have vr : ∀ x ∈ m ++ [b], VR x := fun x hx => (v.vb x hx).vr
  obtain ⟨M, x, e21, hM, hx⟩ := f21c (n := n + 4) (c := c) hc z (sg := 1) (by decide) (by decide)
  obtain ⟨M', x', e21', hM', hx'⟩ := f21c (n := n + 4) (c := c) hc z (sg := -1) (by decide) (by decide)
  have e11 := f11c (n := n + 1) (c := c) hc v
  have e12 := f12c (n := n + 1) (c := c) hc v
  have e13 := f13c (n := n + 1) (c := c) hc v (x := x) (by rw [← hM]; exact hx)
  have e14 := f14c (n := n + 1) (c := c) hc v (x := x') (by rw [← hM']; exact hx')
  rw [← hM] at e13
  rw [← hM'] at e14
  have r1 := z.r1
  have s0 := z.s0
  have B := bigM_max (f := pay (m ++ [b])) (sg := 1) (R := b.s + b.r) (by omega)
  have B' := bigM_max (f := pay (m ++ [b])) (sg := -1) (R := b.s + b.r) (by omega)
  have g22 := f22c (n := n + 2) (c := c) hc vr (sg := 1) (M := M) (x := x) (by decide) (by decide) (fun u w hu hw => by rw [hM]; exact all_le z.per B.ub hu hw)
  have g22' := f22c (n := n + 2) (c := c) hc vr (sg := -1) (M := M') (x := x') (by decide) (by decide) (fun u w hu hw => by rw [hM']; exact all_le z.per B'.ub hu hw)
  have fz1 : fz (scD (m ++ [b])) = .ret (scD (m ++ [b])) := rfl
  have fz3 : fz (mostD M x) = .ret (mostD M x) := rfl
  have fz4 : fz (mostD M' x') = .ret (mostD M' x') := rfl
  simp only [e_non, e_bl, e_int, e_str, e_var, e_con, e_bin, e_neg, e_cmp, e_chain, e_and, e_or, e_not, e_ite, e_tup, e_lst, e_idx, e_slc, e_call, e_callK, e_blt, e_isk, b_var, b_cmp, b_chain, b_and, b_or, b_not, b_yes, b_call, b_callK, b_blt, b_isk, a_nil, a_cons, r_nil, r_cons, o_nopart, o_part, i_rng1, i_rng2, i_zip, i_enum, i_cap, i_var, i_blt, i_call, i_tup, i_lst, i_idx, i_slc, q_add, q_sub, q_neg, q_lt, q_le, q_gt, q_ge, q_eqI, q_neI, q_isNN, q_isNT, q_isNI, q_isNL, q_isnNN, q_isnNT, q_isnNI, q_isnNL, q_andT, q_andF, q_orT, q_orF, q_not, q_toB, q_part, q_fzI, q_fzB, q_fzS, q_fzN, q_fzT, q_fzL, q_fzW, q_fzSt, q_fzSc, s_nil, s_cons, k_nx, k_rt, k_bk, k_ct, s_asg, s_asgF, s_asgT, k_asg, s_par, s_expr, s_iff, s_retN, s_raise, s_brk, s_cont, s_pass, s_frz, k_frzO, k_frzV, s_retV, k_retO, k_retV, s_ret_non, s_ret_bl, s_ret_int, s_ret_str, s_ret_con, s_ret_bin, s_ret_neg, s_ret_cmp, s_ret_chain, s_ret_and, s_ret_or, s_ret_not, s_ret_ite, s_ret_tup, s_ret_lst, s_ret_idx, s_ret_slc, s_ret_call, s_ret_callK, s_ret_blt, s_ret_isk, s_ret_comp, s_app, k_runR, k_runN, for_nil, k_forN, k_forC, k_forB, k_forR, g_nm, g_tp, o_some, noErr_ret, Yes, retK, ret_bind, err_bind, bad_bind, draw_bind, getV, slOf, slO, setAll, parT, List.length_cons, List.length_nil, List.map_cons, List.map_nil, List.getElem?_cons_zero, List.getElem?_cons_succ, List.set_cons_zero, List.set_cons_succ, List.cons_append, List.nil_append, List.replicate_succ, List.replicate_zero, bind_assoc', fz1, fz3, fz4, permD1, e21, e21', e11, e12, e13, e14, ne_o, ne_m, Bool.false_eq_true, if_false]
  rw [all0_bind]
  refine All0.mono g22 (fun d hd => ?_) fun _ e => e
  subst hd
  have fz5 : fz (optD ((LP (b.s + b.r)).find? (hit (pay (m ++ [b])) (-1) 1))) = .ret (optD ((LP (b.s + b.r)).find? (hit (pay (m ++ [b])) (-1) 1))) := by
    cases (LP (b.s + b.r)).find? (hit (pay (m ++ [b])) (-1) 1) <;> rfl
  have tt : toB (.bl true) = .ret true := rfl
  cases F1 : (LP (b.s + b.r)).find? (hit (pay (m ++ [b])) 1 1) with
  | some y =>
    simp only [tt, is_opt, reduceCtorEq, decide_false, Bool.not_true, Bool.false_eq_true, if_false, e_non, e_bl, e_int, e_str, e_var, e_con, e_bin, e_neg, e_cmp, e_chain, e_and, e_or, e_not, e_ite, e_tup, e_lst, e_idx, e_slc, e_call, e_callK, e_blt, e_isk, b_var, b_cmp, b_chain, b_and, b_or, b_not, b_yes, b_call, b_callK, b_blt, b_isk, a_nil, a_cons, r_nil, r_cons, o_nopart, o_part, i_rng1, i_rng2, i_zip, i_enum, i_cap, i_var, i_blt, i_call, i_tup, i_lst, i_idx, i_slc, q_add, q_sub, q_neg, q_lt, q_le, q_gt, q_ge, q_eqI, q_neI, q_isNN, q_isNT, q_isNI, q_isNL, q_isnNN, q_isnNT, q_isnNI, q_isnNL, q_andT, q_andF, q_orT, q_orF, q_not, q_toB, q_part, q_fzI, q_fzB, q_fzS, q_fzN, q_fzT, q_fzL, q_fzW, q_fzSt, q_fzSc, s_nil, s_cons, k_nx, k_rt, k_bk, k_ct, s_asg, s_asgF, s_asgT, k_asg, s_par, s_expr, s_iff, s_retN, s_raise, s_brk, s_cont, s_pass, s_frz, k_frzO, k_frzV, s_retV, k_retO, k_retV, s_ret_non, s_ret_bl, s_ret_int, s_ret_str, s_ret_con, s_ret_bin, s_ret_neg, s_ret_cmp, s_ret_chain, s_ret_and, s_ret_or, s_ret_not, s_ret_ite, s_ret_tup, s_ret_lst, s_ret_idx, s_ret_slc, s_ret_call, s_ret_callK, s_ret_blt, s_ret_isk, s_ret_comp, s_app, k_runR, k_runN, for_nil, k_forN, k_forC, k_forB, k_forR, g_nm, g_tp, o_some, noErr_ret, Yes, retK, ret_bind, err_bind, bad_bind, draw_bind, getV, slOf, slO, setAll, parT, List.length_cons, List.length_nil, List.map_cons, List.map_nil, List.getElem?_cons_zero, List.getElem?_cons_succ, List.set_cons_zero, List.set_cons_succ, List.cons_append, List.nil_append, List.replicate_succ, List.replicate_zero, bind_assoc', fz1, fz3, fz4, fz5, permD1, e21', e12, e14, ne_o, ne_m]
    rw [all0_bind]
    refine All0.mono g22' (fun d hd => ?_) fun _ e => e
    subst hd
    exact ⟨_, _, _, _, _, rfl⟩
  | none =>
    simp only [tt, is_opt, decide_true, Bool.not_true, Bool.false_eq_true, if_false, if_true, e_non, e_bl, e_int, e_str, e_var, e_con, e_bin, e_neg, e_cmp, e_chain, e_and, e_or, e_not, e_ite, e_tup, e_lst, e_idx, e_slc, e_call, e_callK, e_blt, e_isk, b_var, b_cmp, b_chain, b_and, b_or, b_not, b_yes, b_call, b_callK, b_blt, b_isk, a_nil, a_cons, r_nil, r_cons, o_nopart, o_part, i_rng1, i_rng2, i_zip, i_enum, i_cap, i_var, i_blt, i_call, i_tup, i_lst, i_idx, i_slc, q_add, q_sub, q_neg, q_lt, q_le, q_gt, q_ge, q_eqI, q_neI, q_isNN, q_isNT, q_isNI, q_isNL, q_isnNN, q_isnNT, q_isnNI, q_isnNL, q_andT, q_andF, q_orT, q_orF, q_not, q_toB, q_part, q_fzI, q_fzB, q_fzS, q_fzN, q_fzT, q_fzL, q_fzW, q_fzSt, q_fzSc, s_nil, s_cons, k_nx, k_rt, k_bk, k_ct, s_asg, s_asgF, s_asgT, k_asg, s_par, s_expr, s_iff, s_retN, s_raise, s_brk, s_cont, s_pass, s_frz, k_frzO, k_frzV, s_retV, k_retO, k_retV, s_ret_non, s_ret_bl, s_ret_int, s_ret_str, s_ret_con, s_ret_bin, s_ret_neg, s_ret_cmp, s_ret_chain, s_ret_and, s_ret_or, s_ret_not, s_ret_ite, s_ret_tup, s_ret_lst, s_ret_idx, s_ret_slc, s_ret_call, s_ret_callK, s_ret_blt, s_ret_isk, s_ret_comp, s_app, k_runR, k_runN, for_nil, k_forN, k_forC, k_forB, k_forR, g_nm, g_tp, o_some, noErr_ret, Yes, retK, ret_bind, err_bind, bad_bind, draw_bind, getV, slOf, slO, setAll, parT, List.length_cons, List.length_nil, List.map_cons, List.map_nil, List.getElem?_cons_zero, List.getElem?_cons_succ, List.set_cons_zero, List.set_cons_succ, List.cons_append, List.nil_append, List.replicate_succ, List.replicate_zero, bind_assoc', fz1, fz3, fz4, fz5, permD1, e21', e12, e14, ne_o, ne_m]
    rw [all0_bind]
    refine All0.mono (f23c (n := n + 2) (c := c) hc vr fun u w hu hw => first_none z.per F1 hu hw) (fun d hd => ?_) fun _ e => e
    subst hd
    simp only [tt, Bool.not_true, Bool.false_eq_true, if_false, e_non, e_bl, e_int, e_str, e_var, e_con, e_bin, e_neg, e_cmp, e_chain, e_and, e_or, e_not, e_ite, e_tup, e_lst, e_idx, e_slc, e_call, e_callK, e_blt, e_isk, b_var, b_cmp, b_chain, b_and, b_or, b_not, b_yes, b_call, b_callK, b_blt, b_isk, a_nil, a_cons, r_nil, r_cons, o_nopart, o_part, i_rng1, i_rng2, i_zip, i_enum, i_cap, i_var, i_blt, i_call, i_tup, i_lst, i_idx, i_slc, q_add, q_sub, q_neg, q_lt, q_le, q_gt, q_ge, q_eqI, q_neI, q_isNN, q_isNT, q_isNI, q_isNL, q_isnNN, q_isnNT, q_isnNI, q_isnNL, q_andT, q_andF, q_orT, q_orF, q_not, q_toB, q_part, q_fzI, q_fzB, q_fzS, q_fzN, q_fzT, q_fzL, q_fzW, q_fzSt, q_fzSc, s_nil, s_cons, k_nx, k_rt, k_bk, k_ct, s_asg, s_asgF, s_asgT, k_asg, s_par, s_expr, s_iff, s_retN, s_raise, s_brk, s_cont, s_pass, s_frz, k_frzO, k_frzV, s_retV, k_retO, k_retV, s_ret_non, s_ret_bl, s_ret_int, s_ret_str, s_ret_con, s_ret_bin, s_ret_neg, s_ret_cmp, s_ret_chain, s_ret_and, s_ret_or, s_ret_not, s_ret_ite, s_ret_tup, s_ret_lst, s_ret_idx, s_ret_slc, s_ret_call, s_ret_callK, s_ret_blt, s_ret_isk, s_ret_comp, s_app, k_runR, k_runN, for_nil, k_forN, k_forC, k_forB, k_forR, g_nm, g_tp, o_some, noErr_ret, Yes, retK, ret_bind, err_bind, bad_bind, draw_bind, getV, slOf, slO, setAll, parT, List.length_cons, List.length_nil, List.map_cons, List.map_nil, List.getElem?_cons_zero, List.getElem?_cons_succ, List.set_cons_zero, List.set_cons_succ, List.cons_append, List.nil_append, List.replicate_succ, List.replicate_zero, bind_assoc', fz1, fz3, fz4, fz5, permD1, e21', e12, e14, ne_o, ne_m]
    rw [all0_bind]
    refine All0.mono g22' (fun d hd => ?_) fun _ e => e
    subst hd
    exact ⟨_, _, _, _, _, rfl⟩
end LW
end
section
set_option maxHeartbeats 400000
namespace LW
open PySem PV
theorem f25y {n : Nat} {c : Nat → List D → T D} (hc : c = callF tab WH (n + 6)) : Yes (fun d => d = .bl true) (c 25 [.sta]) := by
  subst hc
  exact Yes.of_eq rfl (@f25 n _ rfl)
theorem f25c {n : Nat} {c : Nat → List D → T D} (hc : c = callF tab WH (n + 6)) : (c 25 [.sta]).All0 (fun d => d = .bl true) fun _ => False := Yes.all (f25y hc)
theorem it_law {c : Nat → List D → T D} {ns : List Int} (hl : ns.length ≤ 63) : ∃ k : Int, (evs c (.rng1 (.bin .add (.int 2) (.blt .min (.cons (.blt .len (.cons (.var 0) .nil)) (.cons (.int 4) .nil)))))).I [.val (.scr ns), .val .sta, .un, .un, .un, .un, .un] = .ret ((rng 0 k).map D.int) := by
  refine ⟨2 + (if (4 : Int) < ((ns.map D.int).length : Int) then (4 : Int) else ((ns.map D.int).length : Int)), ?_⟩
  show rng1T (.int (2 + (if (4 : Int) < ((ns.map D.int).length : Int) then (4 : Int) else ((ns.map D.int).length : Int)))) = _
  rw [List.length_map]
  have h : -1000000 ≤ 2 + (if (4 : Int) < (ns.length : Int) then (4 : Int) else (ns.length : Int)) ∧ 2 + (if (4 : Int) < (ns.length : Int) then (4 : Int) else (ns.length : Int)) ≤ 1000000 := by
    split <;> omega
  exact rng_T (lo := 0) (by decide) (by decide) h.1 h.2
theorem body_yes {n : Nat} {c : Nat → List D → T D} (hc : c = callF tab WH (n + 6)) {ns : List Int} (hl : ns.length ≤ 63) : Yes (fun fl => fl = .rt (.bl true)) (ex c WH dL.body (startE dL.N [.scr ns, .sta])) := by
  constructor
  obtain ⟨k, hr⟩ := @it_law c ns hl
  have tt : toB (.bl true) = .ret true := rfl
  have L := for_all (set := bindTg (.nm 2)) (body := ex c WH bL) (g := D.int) (Inv := fun _ r => InvL ns r) (V := fun _ => False) (E := fun _ => False) (rng 0 k) (fun t l' r hr => stepL hc t r hr) [.val (.scr ns), .val .sta, .un, .un, .un, .un, .un] ⟨_, _, _, _, _, rfl⟩
  unfold bL at L
  simp only [dL, startE]
  simp only [e_non, e_bl, e_int, e_str, e_var, e_con, e_bin, e_neg, e_cmp, e_chain, e_and, e_or, e_not, e_ite, e_tup, e_lst, e_idx, e_slc, e_call, e_callK, e_blt, e_isk, b_var, b_cmp, b_chain, b_and, b_or, b_not, b_yes, b_call, b_callK, b_blt, b_isk, a_nil, a_cons, r_nil, r_cons, o_nopart, o_part, i_rng1, i_rng2, i_zip, i_enum, i_cap, i_var, i_blt, i_call, i_tup, i_lst, i_idx, i_slc, q_add, q_sub, q_neg, q_lt, q_le, q_gt, q_ge, q_eqI, q_neI, q_isNN, q_isNT, q_isNI, q_isNL, q_isnNN, q_isnNT, q_isnNI, q_isnNL, q_andT, q_andF, q_orT, q_orF, q_not, q_toB, q_part, q_fzI, q_fzB, q_fzS, q_fzN, q_fzT, q_fzL, q_fzW, q_fzSt, q_fzSc, s_nil, s_cons, k_nx, k_rt, k_bk, k_ct, s_asg, s_asgF, s_asgT, k_asg, s_par, s_expr, s_iff, s_retN, s_raise, s_brk, s_cont, s_pass, s_frz, k_frzO, k_frzV, s_retV, k_retO, k_retV, s_ret_non, s_ret_bl, s_ret_int, s_ret_str, s_ret_con, s_ret_bin, s_ret_neg, s_ret_cmp, s_ret_chain, s_ret_and, s_ret_or, s_ret_not, s_ret_ite, s_ret_tup, s_ret_lst, s_ret_idx, s_ret_slc, s_ret_call, s_ret_callK, s_ret_blt, s_ret_isk, s_ret_comp, s_app, k_runR, k_runN, for_nil, k_forN, k_forC, k_forB, k_forR, g_nm, g_tp, o_some, noErr_ret, Yes, retK, ret_bind, err_bind, bad_bind, draw_bind, getV, slOf, slO, setAll, parT, List.length_cons, List.length_nil, List.map_cons, List.map_nil, List.getElem?_cons_zero, List.getElem?_cons_succ, List.set_cons_zero, List.set_cons_succ, List.cons_append, List.nil_append, List.replicate_succ, List.replicate_zero, bind_assoc']
  rw [all0_bind]
  refine All0.mono (f24c hc) (fun d hd => ?_) fun _ e => e
  subst hd
  simp only [tt, ret_bind, Bool.not_true, Bool.false_eq_true, if_false, bind_assoc']
  rw [all0_bind]
  refine All0.mono (f25c hc) (fun d hd => ?_) fun _ e => e
  subst hd
  simp only [tt, Bool.not_true, Bool.false_eq_true, if_false, e_non, e_bl, e_int, e_str, e_var, e_con, e_bin, e_neg, e_cmp, e_chain, e_and, e_or, e_not, e_ite, e_tup, e_lst, e_idx, e_slc, e_call, e_callK, e_blt, e_isk, b_var, b_cmp, b_chain, b_and, b_or, b_not, b_yes, b_call, b_callK, b_blt, b_isk, a_nil, a_cons, r_nil, r_cons, o_nopart, o_part, i_rng1, i_rng2, i_zip, i_enum, i_cap, i_var, i_blt, i_call, i_tup, i_lst, i_idx, i_slc, q_add, q_sub, q_neg, q_lt, q_le, q_gt, q_ge, q_eqI, q_neI, q_isNN, q_isNT, q_isNI, q_isNL, q_isnNN, q_isnNT, q_isnNI, q_isnNL, q_andT, q_andF, q_orT, q_orF, q_not, q_toB, q_part, q_fzI, q_fzB, q_fzS, q_fzN, q_fzT, q_fzL, q_fzW, q_fzSt, q_fzSc, s_nil, s_cons, k_nx, k_rt, k_bk, k_ct, s_asg, s_asgF, s_asgT, k_asg, s_par, s_expr, s_iff, s_retN, s_raise, s_brk, s_cont, s_pass, s_frz, k_frzO, k_frzV, s_retV, k_retO, k_retV, s_ret_non, s_ret_bl, s_ret_int, s_ret_str, s_ret_con, s_ret_bin, s_ret_neg, s_ret_cmp, s_ret_chain, s_ret_and, s_ret_or, s_ret_not, s_ret_ite, s_ret_tup, s_ret_lst, s_ret_idx, s_ret_slc, s_ret_call, s_ret_callK, s_ret_blt, s_ret_isk, s_ret_comp, s_app, k_runR, k_runN, for_nil, k_forN, k_forC, k_forB, k_forR, g_nm, g_tp, o_some, noErr_ret, Yes, retK, ret_bind, err_bind, bad_bind, draw_bind, getV, slOf, slO, setAll, parT, List.length_cons, List.length_nil, List.map_cons, List.map_nil, List.getElem?_cons_zero, List.getElem?_cons_succ, List.set_cons_zero, List.set_cons_succ, List.cons_append, List.nil_append, List.replicate_succ, List.replicate_zero, s_for, hr]
  rw [all0_bind]
  refine All0.mono L (fun fl q => ?_) fun _ e => e
  cases fl with
  | nx r =>
    obtain ⟨x2, x3, x4, x5, x6, rfl⟩ := q
    simp only [e_non, e_bl, e_int, e_str, e_var, e_con, e_bin, e_neg, e_cmp, e_chain, e_and, e_or, e_not, e_ite, e_tup, e_lst, e_idx, e_slc, e_call, e_callK, e_blt, e_isk, b_var, b_cmp, b_chain, b_and, b_or, b_not, b_yes, b_call, b_callK, b_blt, b_isk, a_nil, a_cons, r_nil, r_cons, o_nopart, o_part, i_rng1, i_rng2, i_zip, i_enum, i_cap, i_var, i_blt, i_call, i_tup, i_lst, i_idx, i_slc, q_add, q_sub, q_neg, q_lt, q_le, q_gt, q_ge, q_eqI, q_neI, q_isNN, q_isNT, q_isNI, q_isNL, q_isnNN, q_isnNT, q_isnNI, q_isnNL, q_andT, q_andF, q_orT, q_orF, q_not, q_toB, q_part, q_fzI, q_fzB, q_fzS, q_fzN, q_fzT, q_fzL, q_fzW, q_fzSt, q_fzSc, s_nil, s_cons, k_nx, k_rt, k_bk, k_ct, s_asg, s_asgF, s_asgT, k_asg, s_par, s_expr, s_iff, s_retN, s_raise, s_brk, s_cont, s_pass, s_frz, k_frzO, k_frzV, s_retV, k_retO, k_retV, s_ret_non, s_ret_bl, s_ret_int, s_ret_str, s_ret_con, s_ret_bin, s_ret_neg, s_ret_cmp, s_ret_chain, s_ret_and, s_ret_or, s_ret_not, s_ret_ite, s_ret_tup, s_ret_lst, s_ret_idx, s_ret_slc, s_ret_call, s_ret_callK, s_ret_blt, s_ret_isk, s_ret_comp, s_app, k_runR, k_runN, for_nil, k_forN, k_forC, k_forB, k_forR, g_nm, g_tp, o_some, noErr_ret, Yes, retK, ret_bind, err_bind, bad_bind, draw_bind, getV, slOf, slO, setAll, parT, List.length_cons, List.length_nil, List.map_cons, List.map_nil, List.getElem?_cons_zero, List.getElem?_cons_succ, List.set_cons_zero, List.set_cons_succ, List.cons_append, List.nil_append, List.replicate_succ, List.replicate_zero]
    rfl
  | rt v => exact q.elim
  | bk _ => exact q.elim
  | ct _ => exact q.elim
theorem okT_ : okT tab WH 12 = true := by decide +kernel
theorem okS_ : okS (look (cT tab WH 12)) WH dL.body = true := by decide +kernel
theorem cost_ : cS (look (cT tab WH 12)) WH dL.body ≤ LIM := by decide +kernel
theorem plain0 {c : Nat → List D → T D} (hc : c = callF tab WH 12) {ns : List Int} (hl : ns.length ≤ 63) : (ex c WH dL.body (startE dL.N [.scr ns, .sta])).All (fun _ fl => fl = .rt (.bl true)) (fun _ _ => False) LIM := by
  have h1 := (body_yes (n := 6) hc hl).all
  have h2 := leS (call := c) (fun f ds => by rw [hc]; exact leF 12 okT_ f ds) dL.body okS_ (startE dL.N [.scr ns, .sta])
  exact all_of h1 h2 cost_
theorem plain (ns : List Int) (hl : ns.length ≤ 63) : (ex (callF tab WH 12) WH dL.body (startE dL.N [.scr ns, .sta])).All (fun _ fl => fl = .rt (.bl true)) (fun _ _ => False) LIM := by
  generalize hc : callF tab WH 12 = c
  exact plain0 hc.symm hl
end LW
end
section
set_option maxHeartbeats 4000000
open PySem PySem.W PySem.Calls PyProof.Rows
theorem PySem.Challenge.cw_samehowever_k36_whole_splitting_and_join_holds : PySem.Challenge.rw_samehowever_k36_whole_splitting_and_join.Holds := by
  w_on; o_law
  refine HandSHeadRun.head_any (r := OpenLaw.row PySem.Challenge.rw_samehowever_k36_whole_splitting_and_join) (q := view (OpenLaw.row PySem.Challenge.rw_samehowever_k36_whole_splitting_and_join).prog [38]) (H := LW.hk) (ob := LW.ob) (M := 4000) (loose := LW.loose) (d := HandSHeadRun.topDef (OpenLaw.row PySem.Challenge.rw_samehowever_k36_whole_splitting_and_join).prog 38) (kwd := []) LW.ob_eq
    (by kernel_rfl) (fun s => by kernel_rfl) LW.run (by kernel_rfl) (by kernel_rfl) (by kernel_rfl) (by rfl) (by first | assumption | decide +kernel) (by decide +kernel) ⟨rfl, rfl, rfl, rfl, rfl, by decide +kernel⟩ ?hw ?hc
  case hw => w_witness2
  case hc =>
    refine L2.walk_ofE (l := PySem.Challenge.rw_samehowever_k36_whole_splitting_and_join) (n := 63) (k := 13) (x := "script") (CX := L2.CX0) rfl (by decide) (by kernel_rfl) ⟨rfl, by decide, by decide⟩ ?F (fun _ _ _ _ z => z)
    intro w mg fa h Y G hmg0
    obtain ⟨K, KX, c⟩ := Y
    have hmg : mg ("law" : PySem.Str) = some (.ref fa) := by
      have e : (HandSHeadRun.topDef (OpenLaw.row PySem.Challenge.rw_samehowever_k36_whole_splitting_and_join).prog 38).name = ("law" : PySem.Str) := by kernel_rfl
      rw [← e]
      exact hmg0
    obtain ⟨fd, hb, hF⟩ := LW.law_facts LW.plain (P := (PySem.Challenge.rw_samehowever_k36_whole_splitting_and_join).prog) (w := w) KX G hmg c
    exact ⟨K, fd, PV.spLaw K, KX, hb, fun H a ns hl _ hS => ⟨a, ns, rfl, hS, hl, fun _ => rfl⟩, hF⟩
end
