import PyProof.Rows.All
import Wide.All
import OpenK.AllK
import Wide.FinOn
import HandS.ForMost
import KE.KMathGC
import HandS.Exc
import HandS.ExcOwn
import HandS.WordsExc
import HandS.Defaults
import HandS.TupAny
import HandS.TupMul
import HandS.IsInst
import HandS.Wide
import HandS.Walk
import HandS.Zip
import HandS.Lambda
import KE.KSortedM
import HandS.ExcValue
import HandS.ExcIs
import HandS.Style
import HandS.Gcd
import HandS.Words
import HandS.HeadHook1
import HandS.HeadHook2
import HandS.HeadHook3
import HandS.HeadHook4
import HandS.HeadWalk
import PySem.Challenge.RW_samehowever_k81_samples_that_miss
import KE.KStateDown
import Lean
import HandS.Ends
import HandS.More
import HandS.Head0
import HandS.Head1
import HandS.Head2
import HandS.Head3
import HandS.HeadEnd
set_option Elab.async false
set_option linter.all false
set_option maxRecDepth 100000
section
set_option maxHeartbeats 4000000
/-! PvCore: plain data, the tree of draws, a small language, what it computes. -/
namespace PV
open PySem

/-- plain data; bor: a list of one's own, looked at; new: a list that nobody else holds -/
inductive D where
  | non | bl (b : Bool) | int (i : Int) | str (x : Str) | tup (xs : List D) | lst (xs : List D)
  | emp | exc (c : Nat) | sta | scr (ns : List Int) | bor (xs : List D) | new (xs : List D)

/-- what a run comes to: an answer, an error of a class, no answer, or a drawn number first -/
inductive T (a : Type) : Type where
  | ret (x : a) | err (c : Nat) | bad | draw (n : Int) (k : Int → T a)
namespace T
def bind {a b : Type} : T a → (a → T b) → T b
  | .ret x, f => f x
  | .err c, _ => .err c
  | .bad, _ => .bad
  | .draw n k, f => .draw n fun d => bind (k d) f
/-- whatever is drawn, with b draws left (a draw may cost one) -/
def All {a : Type} (P : Nat → a → Prop) (E : Nat → Nat → Prop) : T a → Nat → Prop
  | .ret x, b => P b x
  | .err c, b => E b c
  | .bad, _ => False
  | .draw n k, b => 0 < b ∧ ∀ d, 0 ≤ d → d < n → ∀ b', b ≤ b' + 1 → b' ≤ b → All P E (k d) b'
end T
instance : Monad T where
  pure := T.ret
  bind := T.bind
section
variable {a b c : Type}
theorem ret_bind (x : a) (f : a → T b) : (T.ret x >>= f) = f x := rfl
theorem pure_bind' (x : a) (f : a → T b) : ((pure x : T a) >>= f) = f x := rfl
theorem pure_ret (x : a) : (pure x : T a) = T.ret x := rfl
theorem err_bind (k : Nat) (f : a → T b) : ((T.err k : T a) >>= f) = T.err k := rfl
theorem bad_bind (f : a → T b) : ((T.bad : T a) >>= f) = T.bad := rfl
theorem draw_bind (n : Int) (k : Int → T a) (f : a → T b) : ((T.draw n k : T a) >>= f) = T.draw n fun d => k d >>= f := rfl
theorem bind_ret (t : T a) : (t >>= T.ret) = t := by
  show T.bind t T.ret = t
  induction t with
  | ret x => rfl
  | err c => rfl
  | bad => rfl
  | draw n k ih => exact congrArg (T.draw n) (funext ih)
theorem bind_assoc' (t : T a) (f : a → T b) (g : b → T c) : ((t >>= f) >>= g) = (t >>= fun x => f x >>= g) := by
  show T.bind (T.bind t f) g = T.bind t fun x => T.bind (f x) g
  induction t with
  | ret x => rfl
  | err c => rfl
  | bad => rfl
  | draw n k ih => exact congrArg (T.draw n) (funext ih)
theorem all_ret {P : Nat → a → Prop} {E : Nat → Nat → Prop} {x : a} {m : Nat} : (T.ret x).All P E m ↔ P m x := Iff.rfl
theorem all_bind {P : Nat → b → Prop} {E : Nat → Nat → Prop} {f : a → T b} {t : T a} {m : Nat} : (t >>= f).All P E m ↔ t.All (fun m x => (f x).All P E m) E m := by
  show (T.bind t f).All P E m ↔ _
  induction t generalizing m with
  | ret x => exact Iff.rfl
  | err c => exact Iff.rfl
  | bad => exact Iff.rfl
  | draw n k ih => exact ⟨fun h => ⟨h.1, fun d h0 h1 m' h2 h3 => (ih d).mp (h.2 d h0 h1 m' h2 h3)⟩, fun h => ⟨h.1, fun d h0 h1 m' h2 h3 => (ih d).mpr (h.2 d h0 h1 m' h2 h3)⟩⟩
theorem All.mono {P Q : Nat → a → Prop} {E F : Nat → Nat → Prop} {t : T a} {m : Nat} (h : t.All P E m) (hp : ∀ {m} x, P m x → Q m x) (he : ∀ {m} c, E m c → F m c) : t.All Q F m := by
  induction t generalizing m with
  | ret x => exact hp x h
  | err c => exact he c h
  | bad => exact h
  | draw n k ih => exact ⟨h.1, fun d h0 h1 m' h2 h3 => ih d (h.2 d h0 h1 m' h2 h3)⟩
end

/-! ### the language -/
inductive BOp | add | sub | mul | fdiv | mod | pow
inductive COp | lt | le | gt | ge | eq | ne | is | isn | inn | nin
/-- built-in calls -/
inductive Blt | abs | max | min | len | sum | all | any | sorted | list | tuple | int | isint | isbool | istup | islst | isstr | gcd | comb | str
/-- terms of no, of one part -/
inductive O0 | emp
inductive O1 | rev
inductive Tg | nm (i : Nat) | tp (is : List Nat)
inductive X where
  | non | bl (b : Bool) | int (i : Int) | str (x : Str) | var (i : Nat) | con (x : Str) (i : Int)
  | bin (op : BOp) (a b : X) | neg (a : X) | cmp (op : COp) (a b : X) | chain (o p : COp) (a b c : X)
  | and (a b : X) | or (a b : X) | not (a : X) | ite (t a b : X)
  | tup (as : X) | lst (as : X) | nil | cons (a as : X)
  | idx (a i : X) | slc (a lo hi : X) | part (a : X) | nopart
  | call (f : Nat) (as : X) | callK (f : Nat) (perm : List Nat) (as : X) | blt (f : Blt) (as : X) | isk (f : Blt) (a : X)
  | comp (tg : Tg) (it cond elt : X) (own : List (Str × Nat)) | yes
  | op0 (o : O0) | op1 (o : O1) (a : X) | callM (f m : Nat) (perm : List Nat) (as bs : X)
  | caught (nx : Nat) (a : X) | isx (nx k : Nat) (a : X)
  | cap (a : X) | rng1 (a : X) | rng2 (a b : X) | zip (a b : X) | enum (a : X)
inductive S where
  | nil | cons (s r : S)
  | asg (i : Nat) (e : X) | asgF (i : Nat) (e : X) | asgT (is : List Nat) (e : X) | par (is : List Nat) (es : X) | expr (e : X)
  | app (i : Nat) (e : X) | sset (i : Nat) (ix e : X)
  | iff (t : X) (a b : S) | for_ (tg : Tg) (it : X) (body : S) | while_ (t : X) (body : S)
  | ret (e : X) | retN | raise (c : Nat) | frz (i : Nat) | brk | cont | pass

/-! ### data: equality, order -/
mutual
def D.toPy : D → PyData
  | .non => .none | .bl b => .bool b | .int i => .int i | .str x => .str x
  | .tup xs => .tuple (D.toPys xs) | .lst xs => .list (D.toPys xs) | .bor xs => .list (D.toPys xs) | .new xs => .list (D.toPys xs)
  | .scr ns => .list (ns.map PyData.int)
  | .emp => .dict [] | .exc _ => .dict [] | .sta => .dict []
def D.toPys : List D → List PyData
  | [] => []
  | d :: ds => D.toPy d :: D.toPys ds
end
def okPy (d : D) : Bool := SeqAt.shaped d.toPy
def deq (a b : D) : T Bool := if okPy a && okPy b then .ret (PyData.eqv a.toPy b.toPy) else .bad
def flat : D → Bool
  | .non => true | .bl _ => true | .int _ => true | .str _ => true | _ => false
/-- a list's or tuple's items -/
def items : D → Option (List D)
  | .tup xs => some xs | .lst xs => some xs | .bor xs => some xs | .new xs => some xs | .scr ns => some (ns.map D.int) | _ => none
def intsD : List D → Option (List Int)
  | [] => some []
  | .int i :: ds => (intsD ds).map (i :: ·)
  | _ :: _ => none
def blsD : List D → Option (List Bool)
  | [] => some []
  | .bl i :: ds => (blsD ds).map (i :: ·)
  | _ :: _ => none
/-- stored: a new list is everybody's from now on; one's own can't be -/
def fz : D → T D
  | .new xs => .ret (.lst xs)
  | .bor _ => .bad
  | d => .ret d
def ofO {a : Type} : Option a → T a
  | some x => .ret x
  | none => .bad
def lim : Nat := 16777216
def mulOk (i j : Int) : Bool := decide (-(2 ^ 64) < i ∧ i < 2 ^ 64) || decide (-(2 ^ 64) < j ∧ j < 2 ^ 64)
/-- lexicographic < of lists of integers -/
def lexLt : List Int → List Int → Bool := HT.lexLt

def lenIf (n : Nat) (d : D) : T D := if n ≤ lim then .ret d else .bad
def addT : D → D → T D
  | .int i, .int j => .ret (.int (i + j))
  | .tup xs, .tup ys => lenIf (xs.length + ys.length) (.tup (xs ++ ys))
  | .lst xs, .lst ys => lenIf (xs.length + ys.length) (.new (xs ++ ys))
  | .new xs, .lst ys => lenIf (xs.length + ys.length) (.new (xs ++ ys))
  | .lst xs, .new ys => lenIf (xs.length + ys.length) (.new (xs ++ ys))
  | .new xs, .new ys => lenIf (xs.length + ys.length) (.new (xs ++ ys))
  | .bor xs, .new ys => lenIf (xs.length + ys.length) (.new (xs ++ ys))
  | .bor xs, .lst ys => lenIf (xs.length + ys.length) (.new (xs ++ ys))
  | _, _ => .bad
def subT : D → D → T D
  | .int i, .int j => .ret (.int (i - j))
  | _, _ => .bad
def mulT : D → D → T D
  | .int i, .int j => if mulOk i j = true then .ret (.int (i * j)) else .bad
  | .tup xs, .int k => if xs ≠ [] ∧ xs.length ≤ 1000 ∧ 2 ≤ k ∧ k ≤ 1000 then .ret (.tup (List.replicate k.toNat xs).flatten) else .bad
  | .lst xs, .int k => if xs.length ≤ 1000 ∧ 0 ≤ k ∧ k ≤ 1000 then .ret (.new (List.replicate k.toNat xs).flatten) else .bad
  | .bor xs, .int k => if xs.length ≤ 1000 ∧ 0 ≤ k ∧ k ≤ 1000 then .ret (.new (List.replicate k.toNat xs).flatten) else .bad
  | .new xs, .int k => if xs.length ≤ 1000 ∧ 0 ≤ k ∧ k ≤ 1000 then .ret (.new (List.replicate k.toNat xs).flatten) else .bad
  | _, _ => .bad
def fdivT : D → D → T D
  | .int i, .int j => if 0 < j ∧ j < 2 ^ 200 then .ret (.int (i / j)) else .bad
  | _, _ => .bad
def modT : D → D → T D
  | .int i, .int j => if 0 < j then .ret (.int (i % j)) else .bad
  | _, _ => .bad
def powT : D → D → T D
  | .int i, .int j => if 0 ≤ j ∧ j ≤ 1000 ∧ i.natAbs < 2 ^ 64 then .ret (.int (i ^ j.toNat)) else .bad
  | _, _ => .bad
def binT : BOp → D → D → T D
  | .add => addT | .sub => subT | .mul => mulT | .fdiv => fdivT | .mod => modT | .pow => powT
def ltT : D → D → T Bool
  | .int i, .int j => .ret (decide (i < j))
  | .tup xs, .tup ys => match intsD xs, intsD ys with
    | some ns, some ms => .ret (lexLt ns ms)
    | _, _ => .bad
  | _, _ => .bad
def leT : D → D → T Bool
  | .int i, .int j => .ret (decide (i ≤ j))
  | _, _ => .bad
def gtT : D → D → T Bool
  | .int i, .int j => .ret (decide (j < i))
  | _, _ => .bad
def geT : D → D → T Bool
  | .int i, .int j => .ret (decide (j ≤ i))
  | _, _ => .bad
def isNon : D → T Bool
  | .non => .ret true
  | .bor _ => .bad | .new _ => .bad
  | _ => .ret false
def isB (a : D) (k : Bool) : T Bool := match a with
  | .bl j => .ret (decide (j = k))
  | _ => .bad
def isT (a b : D) : T Bool := match b with
  | .non => isNon a
  | .bl k => isB a k
  | _ => .bad
def isnT (a b : D) : T Bool := isT a b >>= fun k => .ret (!k)
def innT (x ys : D) : T Bool := match items ys with
    | some ds => if flat x = true ∧ ds.all flat = true then .ret (ds.any fun y => PyData.eqv y.toPy x.toPy) else .bad
    | none => .bad
def ninT (x ys : D) : T Bool := innT x ys >>= fun k => .ret (!k)
def neT (a b : D) : T Bool := deq a b >>= fun c => .ret (!c)
def cmpT : COp → D → D → T Bool
  | .lt => ltT | .le => leT | .gt => gtT | .ge => geT | .eq => deq | .ne => neT | .is => isT | .isn => isnT | .inn => innT | .nin => ninT
/-- xs[i] -/
def atD (xs : List D) (i : Int) : Option D := L2.atI xs i
def idxT : D → D → T D
  | .tup xs, .int i => ofO (atD xs i)
  | .lst xs, .int i => ofO (atD xs i)
  | .bor xs, .int i => ofO (atD xs i)
  | .new xs, .int i => ofO (atD xs i)
  | _, _ => .bad
def cutD (xs : List D) (lo hi : Option Int) : List D := (xs.drop (HT.sIx xs.length 0 lo)).take (HT.sIx xs.length xs.length hi - HT.sIx xs.length 0 lo)
def slcT : D → Option Int → Option Int → T D
  | .tup xs, lo, hi => .ret (.tup (cutD xs lo hi))
  | .lst xs, lo, hi => .ret (.new (cutD xs lo hi))
  | .bor xs, lo, hi => .ret (.new (cutD xs lo hi))
  | .new xs, lo, hi => .ret (.new (cutD xs lo hi))
  | _, _, _ => .bad
def maxL : List Int → Option Int
  | [] => none
  | x :: xs => some (xs.foldl max x)
def minL : List Int → Option Int
  | [] => none
  | x :: xs => some (xs.foldl min x)
def insI (x : Int) : List Int → List Int
  | [] => [x]
  | y :: ys => if x ≤ y then x :: y :: ys else y :: insI x ys
def sortI : List Int → List Int
  | [] => []
  | x :: xs => insI x (sortI xs)
def seqL : D → Option (List D)
  | .lst xs => some xs | .bor xs => some xs | .new xs => some xs | _ => none
def seqI (d : D) : Option (List Int) := (seqL d).bind intsD
def seqB (d : D) : Option (List Bool) := (seqL d).bind blsD
def itemsI (d : D) : Option (List Int) := (items d).bind intsD
def absB : List D → T D
  | [.int i] => .ret (.int (if i < 0 then -i else i))
  | _ => .bad
def maxB : List D → T D
  | [.int i, .int j] => .ret (.int (if j > i then j else i))
  | [d] => match (itemsI d).bind maxL with
    | some m => .ret (.int m)
    | none => .bad
  | _ => .bad
def minB : List D → T D
  | [.int i, .int j] => .ret (.int (if j < i then j else i))
  | [d] => match (itemsI d).bind minL with
    | some m => .ret (.int m)
    | none => .bad
  | _ => .bad
def lenB : List D → T D
  | [d] => match items d with
    | some ds => .ret (.int ds.length)
    | none => .bad
  | _ => .bad
def sumB : List D → T D
  | [d] => match (items d).bind intsD with
    | some ns => .ret (.int ns.sum)
    | none => .bad
  | _ => .bad
def allB : List D → T D
  | [d] => match seqB d with
    | some ns => .ret (.bl (ns.all id))
    | none => .bad
  | _ => .bad
def anyB : List D → T D
  | [d] => match seqB d with
    | some ns => .ret (.bl (ns.any id))
    | none => .bad
  | _ => .bad
def sortedB : List D → T D
  | [d] => match seqI d with
    | some ns => if ns.length < 64 then .ret (.new ((sortI ns).map D.int)) else .bad
    | none => .bad
  | _ => .bad
def listB : List D → T D
  | [d] => match items d with
    | some ds => .ret (.new ds)
    | none => .bad
  | _ => .bad
def tupleB : List D → T D
  | [d] => match items d with
    | some ds => .ret (.tup ds)
    | none => .bad
  | _ => .bad
def intB : List D → T D
  | [.int i] => .ret (.int i)
  | _ => .bad
def isKind (k : D → Option Bool) : List D → T D
  | [d] => match k d with
    | some b => .ret (.bl b)
    | none => .bad
  | _ => .bad
def kInt : D → Option Bool
  | .int _ => some true | .bl _ => some true | .non => some false | .str _ => some false | .tup _ => some false | .lst _ => some false | .emp => some false | _ => none
def kBool : D → Option Bool
  | .int _ => some false | .bl _ => some true | .non => some false | .str _ => some false | .tup _ => some false | .lst _ => some false | .emp => some false | _ => none
def kTup : D → Option Bool
  | .int _ => some false | .bl _ => some false | .non => some false | .str _ => some false | .tup _ => some true | .lst _ => some false | .emp => some false | _ => none
def kLst : D → Option Bool
  | .int _ => some false | .bl _ => some false | .non => some false | .str _ => some false | .tup _ => some false | .lst _ => some true | .emp => some false | _ => none
def kStr : D → Option Bool
  | .int _ => some false | .bl _ => some false | .non => some false | .str _ => some true | .tup _ => some false | .lst _ => some false | .emp => some false | _ => none
def gcdB : List D → T D
  | [.int i, .int j] => .ret (.int ((Nat.gcd i.natAbs j.natAbs : Nat) : Int))
  | _ => .bad
def combB : List D → T D
  | [.int i, .int j] => if 0 ≤ i ∧ 0 ≤ j ∧ i ≤ 18000 then .ret (.int (PySem.W.mcComb i j)) else .bad
  | _ => .bad
def strB : List D → T D
  | [.int i] => if i.natAbs < 2 ^ 200 then .ret (.str (toString i)) else .bad
  | _ => .bad
def op0T : O0 → T D
  | .emp => .ret .emp
def op1T : O1 → D → T D
  | .rev, .tup xs => .ret (.tup xs.reverse)
  | .rev, .lst xs => .ret (.new xs.reverse)
  | .rev, .bor xs => .ret (.new xs.reverse)
  | .rev, .new xs => .ret (.new xs.reverse)
  | _, _ => .bad
def bltT : Blt → List D → T D
  | .abs => absB | .max => maxB | .min => minB | .len => lenB | .sum => sumB | .all => allB | .any => anyB | .sorted => sortedB | .list => listB | .tuple => tupleB | .int => intB
  | .isint => isKind kInt | .isbool => isKind kBool | .istup => isKind kTup | .islst => isKind kLst | .isstr => isKind kStr | .gcd => gcdB | .comb => combB | .str => strB

/-- put in another order -/
def permL {a : Type} : List Nat → List a → Option (List a)
  | [], _ => some []
  | i :: is, xs => match xs[i]?, permL is xs with
    | some x, some ys => some (x :: ys)
    | _, _ => none
def permD {a : Type} (perm : List Nat) (xs : List a) : Option (List a) := if xs.length = perm.length then permL perm xs else none
def permM {a : Type} (m : Nat) (perm : List Nat) (xs ys : List a) : Option (List a) := if xs.length = m then permD perm (xs ++ ys) else none
/-! ### the frame -/
inductive Sl | un | val (d : D) | own (xs : List D)
abbrev Env := List Sl
def getV (r : Env) (i : Nat) : T D := match r[i]? with
  | some (.val d) => .ret d
  | some (.own xs) => .ret (.bor xs)
  | _ => .bad
def wipeE (r : Env) : List Nat → Env
  | [] => r
  | v :: vs => (wipeE r vs).set v .un
/-- stored: a new list is one's own -/
def slO : D → Option Sl
  | .new xs => some (.own xs)
  | .bor _ => none
  | d => some (.val d)
def slOf (d : D) : T Sl := ofO (slO d)
def parT : List Nat → List D → Env → Option Env
  | [], [], r => some r
  | i :: is, d :: ds, r => match slO d with
    | some s => parT is ds (r.set i s)
    | none => none
  | _, _, _ => none
def setAll : List Nat → List D → Env → Option Env
  | [], [], r => some r
  | i :: is, d :: ds, r => setAll is ds (r.set i (.val d))
  | _, _, _ => none
def bindTg : Tg → D → Env → T Env
  | .nm i, d, r => .ret (r.set i (.val d))
  | .tp is, .tup ds, r => ofO (setAll is ds r)
  | _, _, _ => .bad
def rngI (lo hi : Int) : T (List D) := if decide (-(2 ^ 62) ≤ lo ∧ lo < 2 ^ 62 ∧ -(2 ^ 62) ≤ hi ∧ hi < 2 ^ 62 ∧ (hi - lo).toNat ≤ lim) then .ret ((List.range (hi - lo).toNat).map fun k => .int (lo + (k : Nat))) else .bad
/-- no error leaves a comprehension -/
def noErr {a : Type} : T a → T a
  | .ret x => .ret x
  | .err _ => .bad
  | .bad => .bad
  | .draw n k => .draw n fun d => noErr (k d)
theorem noErr_all {a : Type} {P : Nat → a → Prop} {E F : Nat → Nat → Prop} {t : T a} {m : Nat} (h : (noErr t).All P E m) : t.All P F m := by
  induction t generalizing m with
  | ret x => exact h
  | err c => exact h.elim
  | bad => exact h
  | draw n k ih => exact ⟨h.1, fun d h0 h1 m' h2 h3 => ih d (h.2 d h0 h1 m' h2 h3)⟩
def compL (f : D → T (Option D)) : List D → T (List D)
  | [] => .ret []
  | d :: ds => f d >>= fun o => compL f ds >>= fun r => .ret (match o with | some y => y :: r | none => r)
def frozen : D → Option (List D)
  | .tup xs => some xs | .lst xs => some xs | .new xs => some xs | .scr ns => some (ns.map D.int) | _ => none
def frozenL : D → Option (List D)
  | .lst xs => some xs | .new xs => some xs | _ => none
def enumD : Nat → List D → List D
  | _, [] => []
  | i, d :: ds => .tup [.int (i : Nat), d] :: enumD (i + 1) ds
def zipD : D → D → Option (List D)
  | .tup xs, .tup ys => some ((xs.zip ys).map fun p => .tup [p.1, p.2])
  | a, b => match frozenL a, frozenL b with
    | some xs, some ys => some ((xs.zip ys).map fun p => .tup [p.1, p.2])
    | _, _ => none

/-- an error kept as a value, None for an answer -/
def catchT (nx : Nat) : T D → T D
  | .ret _ => .ret .non
  | .err c => if c < nx then .ret (.exc c) else .bad
  | .bad => .bad
  | .draw n k => .draw n fun d => catchT nx (k d)
theorem catch_all {nx : Nat} {P : Nat → D → Prop} {E : Nat → Nat → Prop} {t : T D} {m : Nat} (h : (catchT nx t).All P E m) : t.All (fun m _ => P m .non) (fun m c => c < nx ∧ P m (.exc c)) m := by
  induction t generalizing m with
  | ret x => exact h
  | err c =>
    have h : (if c < nx then T.ret (D.exc c) else .bad).All P E m := h
    split at h
    · rename_i q; exact ⟨q, h⟩
    · exact h.elim
  | bad => exact h
  | draw n k ih => exact ⟨h.1, fun d h0 h1 m' h2 h3 => ih d (h.2 d h0 h1 m' h2 h3)⟩
/-- isinstance of an own class -/
def isxT (nx k : Nat) : D → T D
  | .exc c => if c < nx then .ret (.bl (decide (c = k))) else .bad
  | .non => .ret (.bl false)
  | _ => .bad

section
variable (call : Nat → List D → T D)
/-- what a term is: as a value, as a test, as arguments (stored; looked at), as a part of a slice, as what is walked -/
structure Sx where
  E : Env → T D
  B : Env → T Bool
  A : Env → T (List D)
  R : Env → T (List D)
  O : Env → T (Option Int)
  I : Env → T (List D)
def toB (v : D) : T Bool := match v with
  | .bl k => .ret k
  | _ => .bad
def badR {a : Type} : Env → T a := fun _ => .bad
def ofE (e : Env → T D) : Sx := ⟨e, fun r => e r >>= toB, badR, badR, badR, fun r => e r >>= fun v => ofO (frozen v)⟩
def negT (x : D) : T D := match x with
  | .int i => .ret (.int (-i))
  | _ => .bad
def notT (x : D) : T D := match x with
  | .bl b => .ret (.bl (!b))
  | _ => .bad
def andT (x : D) (t : T D) : T D := match x with
  | .bl true => t
  | .bl false => .ret (.bl false)
  | _ => .bad
def orT (x : D) (t : T D) : T D := match x with
  | .bl true => .ret (.bl true)
  | .bl false => t
  | _ => .bad
def partT (x : D) : T (Option Int) := match x with
  | .int i => .ret (some i)
  | _ => .bad
def rng1T (x : D) : T (List D) := match x with
  | .int j => rngI 0 j
  | _ => .bad
def rng2T (x y : D) : T (List D) := match x, y with
  | .int i, .int j => rngI i j
  | _, _ => .bad
def lenT (ds : List D) (d : D) : T D := if ds.length ≤ 1000 then .ret d else .bad
/-- a comprehension's turn -/
def compF (tg : Tg) (ws : List Nat) (b : Env → T Bool) (e : Env → T D) (r : Env) (d : D) : T (Option D) :=
  bindTg tg d (wipeE r ws) >>= fun r2 => b r2 >>= fun k => if k = true then e r2 >>= fun y => fz y >>= fun y => .ret (some y) else .ret none
def evs : X → Sx
  | .non => ofE fun _ => .ret .non
  | .bl b => ofE fun _ => .ret (.bl b)
  | .int i => ofE fun _ => .ret (.int i)
  | .str x => ofE fun _ => .ret (.str x)
  | .var i => ofE fun r => getV r i
  | .con _ i => ofE fun _ => .ret (.int i)
  | .bin op a b => ofE fun r => (evs a).E r >>= fun x => (evs b).E r >>= fun y => binT op x y
  | .neg a => ofE fun r => (evs a).E r >>= negT
  | .cmp op a b => ofE fun r => (evs a).E r >>= fun x => (evs b).E r >>= fun y => cmpT op x y >>= fun c => .ret (.bl c)
  | .chain o p a b c => ofE fun r => (evs a).E r >>= fun x => (evs b).E r >>= fun y => cmpT o x y >>= fun k => if k = true then (evs c).E r >>= fun z => cmpT p y z >>= fun k => .ret (.bl k) else .ret (.bl false)
  | .and a b => ⟨fun r => (evs a).E r >>= fun x => andT x ((evs b).E r), fun r => (evs a).B r >>= fun k => if k = true then (evs b).B r else .ret false, badR, badR, badR, badR⟩
  | .or a b => ⟨fun r => (evs a).E r >>= fun x => orT x ((evs b).E r), fun r => (evs a).B r >>= fun k => if k = true then .ret true else (evs b).B r, badR, badR, badR, badR⟩
  | .not a => ⟨fun r => (evs a).E r >>= notT, fun r => (evs a).B r >>= fun k => .ret (!k), badR, badR, badR, badR⟩
  | .ite t a b => ofE fun r => (evs t).B r >>= fun k => if k = true then (evs a).E r else (evs b).E r
  | .tup as => ofE fun r => (evs as).A r >>= fun ds => lenT ds (.tup ds)
  | .lst as => ofE fun r => (evs as).A r >>= fun ds => lenT ds (.new ds)
  | .nil => ⟨badR, badR, fun _ => .ret [], fun _ => .ret [], badR, badR⟩
  | .cons a as => ⟨badR, badR, fun r => (evs a).E r >>= fun x => fz x >>= fun x => (evs as).A r >>= fun xs => .ret (x :: xs), fun r => (evs a).E r >>= fun x => (evs as).R r >>= fun xs => .ret (x :: xs), badR, badR⟩
  | .idx a i => ofE fun r => (evs a).E r >>= fun x => (evs i).E r >>= fun y => idxT x y
  | .slc a lo hi => ofE fun r => (evs a).E r >>= fun x => (evs lo).O r >>= fun l => (evs hi).O r >>= fun h => slcT x l h
  | .part a => ⟨badR, badR, badR, badR, fun r => (evs a).E r >>= partT, badR⟩
  | .nopart => ⟨badR, badR, badR, badR, fun _ => .ret none, badR⟩
  | .call f as => ofE fun r => (evs as).A r >>= fun ds => call f ds
  | .callK f perm as => ofE fun r => (evs as).A r >>= fun ds => ofO (permD perm ds) >>= fun ds => call f ds
  | .op0 o => ofE fun _ => op0T o
  | .op1 o a => ofE fun r => (evs a).E r >>= op1T o
  | .callM f m perm as bs => ofE fun r => (evs as).A r >>= fun ds => (evs bs).A r >>= fun es => ofO (permM m perm ds es) >>= fun ds => call f ds
  | .blt f as => ofE fun r => (evs as).R r >>= fun ds => bltT f ds
  | .isk f a => ofE fun r => (evs a).E r >>= fun x => bltT f [x]
  | .comp tg it cond elt own => ofE fun r => (evs it).I r >>= fun ds => noErr (compL (compF tg (own.map (·.2)) (evs cond).B (evs elt).E r) ds) >>= fun ys => .ret (.new ys)
  | .caught nx a => ofE fun r => catchT nx ((evs a).E r)
  | .isx nx k a => ofE fun r => (evs a).E r >>= isxT nx k
  | .yes => ⟨badR, fun _ => .ret true, badR, badR, badR, badR⟩
  | .cap a => ⟨badR, badR, badR, badR, badR, fun r => (evs a).I r >>= fun ds => if ds.length ≤ lim then .ret ds else .bad⟩
  | .rng1 a => ⟨badR, badR, badR, badR, badR, fun r => (evs a).E r >>= rng1T⟩
  | .rng2 a b => ⟨badR, badR, badR, badR, badR, fun r => (evs a).E r >>= fun x => (evs b).E r >>= fun y => rng2T x y⟩
  | .zip a b => ⟨badR, badR, badR, badR, badR, fun r => (evs a).E r >>= fun x => (evs b).E r >>= fun y => ofO (zipD x y)⟩
  | .enum a => ⟨badR, badR, badR, badR, badR, fun r => (evs a).E r >>= fun x => ofO ((frozenL x).map (enumD 0))⟩
def ev (x : X) (r : Env) : T D := (evs call x).E r
def evT (x : X) (r : Env) : T Bool := (evs call x).B r
def evA (x : X) (r : Env) : T (List D) := (evs call x).A r
def evR (x : X) (r : Env) : T (List D) := (evs call x).R r
def evO (x : X) (r : Env) : T (Option Int) := (evs call x).O r
def evI (x : X) (r : Env) : T (List D) := (evs call x).I r

/-! ### statements -/
inductive Fl | nx (r : Env) | rt (d : D) | bk (r : Env) | ct (r : Env)
def forL (set : D → Env → T Env) (body : Env → T Fl) : List D → Env → T Fl
  | [], r => .ret (.nx r)
  | d :: ds, r => set d r >>= fun r1 => body r1 >>= fun fl => match fl with
    | .nx r2 => forL set body ds r2
    | .ct r2 => forL set body ds r2
    | .bk r2 => .ret (.nx r2)
    | .rt v => .ret (.rt v)
def whileL (test : Env → T Bool) (body : Env → T Fl) : Nat → Env → T Fl
  | 0, _ => .bad
  | n + 1, r => test r >>= fun k => if k = true then body r >>= fun fl => match fl with
    | .nx r2 => whileL test body n r2
    | .ct r2 => whileL test body n r2
    | .bk r2 => .ret (.nx r2)
    | .rt v => .ret (.rt v) else .ret (.nx r)
variable (wh : Nat)
def ex : S → Env → T Fl
  | .nil, r => .ret (.nx r)
  | .cons s t, r => ex s r >>= fun fl => match fl with
    | .nx r2 => ex t r2
    | f => .ret f
  | .asg i e, r => ev call e r >>= fun d => slOf d >>= fun s => .ret (.nx (r.set i s))
  | .asgF i e, r => ev call e r >>= fun d => fz d >>= fun d => .ret (.nx (r.set i (.val d)))
  | .asgT is e, r => ev call e r >>= fun d => match d with
    | .tup ds => ofO (setAll is ds r) >>= fun r2 => .ret (.nx r2)
    | _ => .bad
  | .par is es, r => evR call es r >>= fun ds => ofO (parT is ds r) >>= fun r2 => .ret (.nx r2)
  | .expr e, r => ev call e r >>= fun _ => .ret (.nx r)
  | .app i e, r => match r[i]? with
    | some (.own xs) => if xs.length < lim then ev call e r >>= fun d => fz d >>= fun d => .ret (.nx (r.set i (.own (xs ++ [d])))) else .bad
    | _ => .bad
  | .sset i ix e, r => match r[i]? with
    | some (.own xs) => ev call e r >>= fun d => fz d >>= fun d => ev call ix r >>= fun k => match k with
      | .int k => match L2.ixN xs.length k with
        | some j => .ret (.nx (r.set i (.own (xs.set j d))))
        | none => .bad
      | _ => .bad
    | _ => .bad
  | .iff t a b, r => evT call t r >>= fun k => if k = true then ex a r else ex b r
  | .for_ tg it body, r => evI call it r >>= fun ds => forL (bindTg tg) (ex body) ds r
  | .while_ t body, r => whileL (evT call t) (ex body) wh r
  | .ret (.var i), r => match r[i]? with
    | some (.own xs) => .ret (.rt (.new xs))
    | some (.val d) => .ret (.rt d)
    | _ => .bad
  | .ret e, r => ev call e r >>= fun d => match d with
    | .bor _ => .bad
    | d => .ret (.rt d)
  | .retN, _ => .ret (.rt .non)
  | .raise c, _ => .err c
  | .frz i, r => match r[i]? with
    | some (.own xs) => .ret (.nx (r.set i (.val (.lst xs))))
    | some (.val d) => .ret (.nx r)
    | _ => .bad
  | .brk, r => .ret (.bk r)
  | .cont, r => .ret (.ct r)
  | .pass, r => .ret (.nx r)
end

/-! ### a program -/
structure Df where
  name : Str
  ps : List Str
  N : List Str
  body : S
def startE (N : List Str) (ds : List D) : Env := ds.map Sl.val ++ List.replicate (N.length - ds.length) Sl.un
def runD (call : Nat → List D → T D) (wh : Nat) (d : Df) (ds : List D) : T D :=
  if ds.length = d.ps.length then ex call wh d.body (startE d.N ds) >>= fun fl => match fl with
    | .rt v => .ret v
    | .nx _ => .ret .non
    | _ => .bad
  else .bad
/-- _law_draw -/
def drawP : List D → T D
  | [.sta, .int k] => if decide (0 < k ∧ k < 2 ^ 200) then .draw k fun d => .ret (.int d) else .bad
  | _ => .bad
abbrev Tab := List (Nat × Df)
def callF (P : Tab) (wh : Nat) : Nat → Nat → List D → T D
  | 0, _, _ => .bad
  | n + 1, 0, ds => if n = 0 then .bad else drawP ds
  | n + 1, k + 1, ds => match P.lookup (k + 1) with
    | some d => runD (callF P wh n) wh d ds
    | none => .bad
end PV
end
section
set_option maxHeartbeats 4000000
/-! PvS1: how plain data lies in the heap; operators. -/
namespace PV
open PySem PySem.Spec PyProof.Rows L2

/-- an exception of the class cls, kept -/
def ExV (cls : Value) (a : Addr) : HO := .ext fun h => ∃ (oe : Obj) (vs : Array Value), h.get? a = some oe ∧ Zc cls none oe ∧ oe.data = .fields vs
/-- what is fixed through a law -/
structure G where
  P : Program
  w : World
  K : PySem.W.Frag
  mg : Str → Option Value
  base : Heap
  F : Addr → Prop
  st : Addr
  good : Hp → Prop
  cad : Nat → Addr
  bud : Hp → Nat
  gob : ∀ H H', good H → (∀ a, F a → H' a = H a) → bud H' = bud H
  gof : ∀ H H', good H → (∀ a, F a → H' a = H a) → (∀ a f, H a = some (.ext f) → H' a = some (.ext f)) → (∀ a ps, H' a = some (.tbl ps) → H a = some (.tbl ps)) → good H'
  T : List (Addr × Str)
  gtb : ∀ H, good H → LamX.Tabs T H
  gtF : ∀ H a ps, good H → H a = some (.tbl ps) → F a
  Hs : Hp
  gts : ∀ H a ps, good H → Hs a = some (.tbl ps) → ∃ ps', H a = some (.tbl ps')
  gln : ∀ H H1, T ≠ [] → good H → LamX.ExtN H H1 → LamX.Tabs T H1 → (∀ a ps, H1 a = some (.tbl ps) → ∃ ps', H a = some (.tbl ps')) → (∀ a ps, Hs a = some (.tbl ps) → ∃ ps', H1 a = some (.tbl ps')) → good H1 ∧ bud H1 = bud H
  gff : ∀ H a, good H → F a → ∃ o, H a = some o
variable {g : G}
abbrev Sub (Z H : Hp) : Prop := ∀ a o, Z a = some o → H a = some o
mutual
inductive Rep (g : G) (Z : Hp) : V → D → Prop
  | non : Rep g Z .non .non
  | bl (b : Bool) : Rep g Z (.bl b) (.bl b)
  | int (i : Int) : Rep g Z (.int i) (.int i)
  | str (x : Str) : Rep g Z (.str x) (.str x)
  | tup {a : Addr} {vs : List V} {ds : List D} : Z a = some (.tup vs) → vs.length ≤ sizeLine → Reps g Z vs ds → Rep g Z (.ref a) (.tup ds)
  | lst {a : Addr} {vs : List V} {ds : List D} : Z a = some (.lst vs) → vs.length ≤ sizeLine → Reps g Z vs ds → Rep g Z (.ref a) (.lst ds)
  | emp {a : Addr} : Z a = some (.dK []) → Rep g Z (.ref a) .emp
  | scr {a : Addr} {ns : List Int} : SqL g.K Z a (ns.map V.int) → ns.length ≤ 63 → Rep g Z (.ref a) (.scr ns)
  | sta : Rep g Z (.ref g.st) .sta
  | exc {a : Addr} {c : Nat} : Z a = some (ExV (.ref (g.cad c)) a) → Rep g Z (.ref a) (.exc c)
inductive Reps (g : G) (Z : Hp) : List V → List D → Prop
  | nil : Reps g Z [] []
  | cons {v : V} {vs : List V} {d : D} {ds : List D} : Rep g Z v d → Reps g Z vs ds → Reps g Z (v :: vs) (d :: ds)
end
theorem sq_sub {K : PySem.W.Frag} {Z H : Hp} {a : Addr} {xs : List V} (e : Sub Z H) (h : SqL K Z a xs) : SqL K H a xs := by
  rcases h with (h | ⟨o, h⟩) | h
  · exact .inl (.inl (e _ _ h))
  · exact .inl (.inr ⟨o, e _ _ h⟩)
  · exact .inr h
mutual
theorem Rep.mono {Z Z' : Hp} (e : Sub Z Z') : ∀ {v : V} {d : D}, Rep g Z v d → Rep g Z' v d
  | _, _, .non => .non
  | _, _, .bl b => .bl b
  | _, _, .int i => .int i
  | _, _, .str x => .str x
  | _, _, .tup h l r => .tup (e _ _ h) l (Reps.mono e r)
  | _, _, .lst h l r => .lst (e _ _ h) l (Reps.mono e r)
  | _, _, .emp h => .emp (e _ _ h)
  | _, _, .scr h l => .scr (sq_sub e h) l
  | _, _, .sta => .sta
  | _, _, .exc h => .exc (e _ _ h)
theorem Reps.mono {Z Z' : Hp} (e : Sub Z Z') : ∀ {vs : List V} {ds : List D}, Reps g Z vs ds → Reps g Z' vs ds
  | _, _, .nil => .nil
  | _, _, .cons r t => .cons (Rep.mono e r) (Reps.mono e t)
end
theorem Reps.length {Z : Hp} : ∀ {vs : List V} {ds : List D}, Reps g Z vs ds → vs.length = ds.length
  | _, _, .nil => rfl
  | _, _, .cons _ t => congrArg Nat.succ (Reps.length t)
theorem Reps.append {Z : Hp} : ∀ {vs ws : List V} {ds es : List D}, Reps g Z vs ds → Reps g Z ws es → Reps g Z (vs ++ ws) (ds ++ es)
  | _, _, _, _, .nil, s => s
  | _, _, _, _, .cons r t, s => .cons r (Reps.append t s)
theorem Reps.take {Z : Hp} : ∀ {vs : List V} {ds : List D} (n : Nat), Reps g Z vs ds → Reps g Z (vs.take n) (ds.take n)
  | _, _, 0, _ => .nil
  | _, _, _ + 1, .nil => .nil
  | _, _, n + 1, .cons r t => .cons r (Reps.take n t)
theorem Reps.drop {Z : Hp} : ∀ {vs : List V} {ds : List D} (n : Nat), Reps g Z vs ds → Reps g Z (vs.drop n) (ds.drop n)
  | _, _, 0, r => r
  | _, _, _ + 1, .nil => .nil
  | _, _, n + 1, .cons _ t => Reps.drop n t
theorem Reps.get {Z : Hp} : ∀ {vs : List V} {ds : List D} {i : Nat} {d : D}, Reps g Z vs ds → ds[i]? = some d → ∃ v, vs[i]? = some v ∧ Rep g Z v d
  | _, _, _, _, .nil, e => by simp at e
  | _, _, 0, _, .cons r _, e => by simp at e; subst e; exact ⟨_, rfl, r⟩
  | _, _, i + 1, d, .cons _ t, e => by
    obtain ⟨v, h1, h2⟩ := Reps.get (i := i) (d := d) t (by simpa using e)
    exact ⟨v, by simpa using h1, h2⟩
theorem Reps.set {Z : Hp} {v : V} {d : D} (r : Rep g Z v d) : ∀ {vs : List V} {ds : List D} (i : Nat), Reps g Z vs ds → Reps g Z (vs.set i v) (ds.set i d)
  | _, _, _, .nil => .nil
  | _, _, 0, .cons _ t => .cons r t
  | _, _, i + 1, .cons q t => .cons q (Reps.set r i t)
theorem Reps.rep {Z : Hp} {vs : List V} {ds : List D} (h : Reps g Z vs ds) : ∀ k : Nat, Reps g Z (List.replicate k vs).flatten (List.replicate k ds).flatten
  | 0 => .nil
  | k + 1 => by
    rw [List.replicate_succ, List.replicate_succ, List.flatten_cons, List.flatten_cons]
    exact h.append (Reps.rep h k)
theorem Reps.intsI {Z : Hp} : ∀ {vs : List V} {ds : List D} {ns : List Int}, Reps g Z vs ds → intsD ds = some ns → vs = ns.map V.int
  | _, _, ns, .nil, e => by cases e; rfl
  | _, d :: ds, ns, .cons r t, e => by
    cases d <;> simp [intsD] at e
    rename_i i
    obtain ⟨ms, h1, h2⟩ := e
    subst h2
    cases r
    rw [List.map_cons, Reps.intsI t h1]
theorem Reps.blsI {Z : Hp} : ∀ {vs : List V} {ds : List D} {ns : List Bool}, Reps g Z vs ds → blsD ds = some ns → vs = ns.map V.bl
  | _, _, ns, .nil, e => by cases e; rfl
  | _, d :: ds, ns, .cons r t, e => by
    cases d <;> simp [blsD] at e
    rename_i i
    obtain ⟨ms, h1, h2⟩ := e
    subst h2
    cases r
    rw [List.map_cons, Reps.blsI t h1]
theorem Reps.ofInts {Z : Hp} : ∀ (ns : List Int), Reps g Z (ns.map V.int) (ns.map D.int)
  | [] => .nil
  | n :: ns => .cons (.int n) (Reps.ofInts ns)

/-- from one moment to a later one -/
structure Step (g : G) (Z H Z' H' : Hp) : Prop where
  z : Sub Z Z'
  zh : Sub Z' H'
  h : ∀ a o, H a = some o → ¬ g.F a → H' a = some o
  new : ∀ a o, Z' a = some o → Z a = some o ∨ H a = none
  zf : ∀ a, g.F a → Z' a = none
  good : g.good H'
structure Pre (g : G) (Z H : Hp) : Prop where
  zh : Sub Z H
  zf : ∀ a, g.F a → Z a = none
  good : g.good H
theorem Step.pre {Z H Z' H' : Hp} (s : Step g Z H Z' H') : Pre g Z' H' := ⟨s.zh, s.zf, s.good⟩
theorem Step.refl {Z H : Hp} (p : Pre g Z H) : Step g Z H Z H := ⟨fun _ _ h => h, p.zh, fun _ _ h _ => h, fun _ _ h => .inl h, p.zf, p.good⟩
theorem none_or {H : Hp} {a : Addr} : H a = none ∨ ∃ o, H a = some o := by
  cases H a with
  | none => exact .inl rfl
  | some o => exact .inr ⟨o, rfl⟩
theorem Step.trans {Z H Z1 H1 Z2 H2 : Hp} (s : Step g Z H Z1 H1) (t : Step g Z1 H1 Z2 H2) : Step g Z H Z2 H2 where
  z := fun a o h => t.z a o (s.z a o h)
  zh := t.zh
  h := fun a o h f => t.h a o (s.h a o h f) f
  new := fun a o h => by
    rcases t.new a o h with q | q
    · exact s.new a o q
    · rcases none_or (H := H) (a := a) with e | ⟨u, e⟩
      · exact .inr e
      · by_cases f : g.F a
        · rw [t.zf a f] at h; cases h
        · rw [s.h a u e f] at q; cases q
  zf := t.zf
  good := t.good
theorem Pre.nF {Z H : Hp} (p : Pre g Z H) {a : Addr} (h : H a = none) : ¬ g.F a := fun f => by
  obtain ⟨o, e⟩ := g.gff H a p.good f
  rw [h] at e; cases e
theorem Pre.nZ {Z H : Hp} (p : Pre g Z H) {a : Addr} (h : H a = none) : Z a = none := by
  rcases none_or (H := Z) (a := a) with e | ⟨u, e⟩
  · exact e
  · rw [p.zh a u e] at h; cases h
theorem sub_new {Z : Hp} {a : Addr} {o : HO} (h : Z a = none) : Sub Z (upd Z a o) := fun b u e => by
  rw [upd_ne (ne_of_none e h)]
  exact e
theorem bud_upd {Z H : Hp} (p : Pre g Z H) {a : Addr} {o : HO} (h : ¬ g.F a) : g.bud (upd H a o) = g.bud H := g.gob H _ p.good fun b f => upd_ne (a := a) (b := b) fun e => h (by rw [← e]; exact f)
theorem good_upd {Z H : Hp} (p : Pre g Z H) {a : Addr} {o : HO} (h : ¬ g.F a) (hx : ∀ f, H a ≠ some (.ext f)) (ho : ∀ ps, o ≠ .tbl ps) : g.good (upd H a o) := by
  refine g.gof H _ p.good (fun b f => upd_ne (a := a) (b := b) fun e => h (by rw [← e]; exact f)) (fun b f e => ?_) fun b ps e => ?_
  · rw [upd_ne (a := a) (b := b) fun q => hx f (by rw [← q]; exact e)]; exact e
  · by_cases q : b = a
    · subst q; rw [upd_same] at e; cases e; exact absurd rfl (ho ps)
    · rw [upd_ne q] at e; exact e
/-- a new object, nobody's -/
theorem Step.newH {Z H : Hp} (p : Pre g Z H) {a : Addr} {o : HO} (h : H a = none) (ho : ∀ ps, o ≠ .tbl ps := by intro _ z; cases z) : Step g Z H Z (upd H a o) :=
  ⟨fun _ _ e => e, fun b u e => sub_new h b u (p.zh b u e), fun b u e _ => sub_new h b u e, fun _ _ e => .inl e, p.zf, good_upd p (p.nF h) (fun f z => by rw [h] at z; cases z) ho⟩
/-- a new object, everybody's -/
theorem Step.newZ {Z H : Hp} (p : Pre g Z H) {a : Addr} {o : HO} (h : H a = none) (ho : ∀ ps, o ≠ .tbl ps := by intro _ z; cases z) : Step g Z H (upd Z a o) (upd H a o) := by
  refine ⟨sub_new (p.nZ h), fun b u e => ?_, fun b u e _ => sub_new h b u e, fun b u e => ?_, fun b f => ?_, good_upd p (p.nF h) (fun f z => by rw [h] at z; cases z) ho⟩
  · by_cases hb : b = a
    · subst hb; rw [upd_same] at e ⊢; exact e
    · rw [upd_ne hb] at e ⊢; exact p.zh b u e
  · by_cases hb : b = a
    · subst hb; exact .inr h
    · rw [upd_ne hb] at e; exact .inl e
  · rw [upd_ne (a := a) (b := b) fun e => p.nF h (by rw [← e]; exact f)]
    exact p.zf b f
/-- a list that was new becomes everybody's -/
theorem Step.freeze {Z H Z' H' : Hp} (s : Step g Z H Z' H') {a : Addr} {o : HO} (h : H a = none) (h' : H' a = some o) (hz : Z' a = none) (nf : ¬ g.F a) : Step g Z H (upd Z' a o) H' := by
  refine ⟨fun b u e => sub_new hz b u (s.z b u e), fun b u e => ?_, s.h, fun b u e => ?_, fun b f => ?_, s.good⟩
  · by_cases hb : b = a
    · subst hb; rw [upd_same] at e; rw [h']; exact e
    · rw [upd_ne hb] at e; exact s.zh b u e
  · by_cases hb : b = a
    · subst hb; exact .inr h
    · rw [upd_ne hb] at e; exact s.new b u e
  · rw [upd_ne (a := a) (b := b) fun e => nf (by rw [← e]; exact f)]
    exact s.zf b f

/-- a lambda was made -/
theorem Step.lam {Z H H1 : Hp} (hT : g.T ≠ []) (p : Pre g Z H) (e : LamX.ExtN H H1) (t : LamX.Tabs g.T H1) (n : ∀ a ps, H1 a = some (.tbl ps) → ∃ ps', H a = some (.tbl ps')) (m : ∀ a ps, g.Hs a = some (.tbl ps) → ∃ ps', H1 a = some (.tbl ps')) : Step g Z H Z H1 ∧ g.bud H1 = g.bud H := by
  obtain ⟨h1, h2⟩ := g.gln H H1 hT p.good e t n m
  refine ⟨⟨fun _ _ z => z, fun a o z => e a o (p.zh a o z) fun ps q => ?_, fun a o z f => e a o z fun ps q => ?_, fun _ _ z => .inl z, p.zf, h1⟩, h2⟩
  · subst q
    rw [p.zf a (g.gtF H a ps p.good (p.zh a _ z))] at z
    cases z
  · subst q
    exact f (g.gtF H a ps p.good z)
/-- a value that was reckoned since H -/
def RepR (g : G) (H Z' H' : Hp) (v : V) : D → Prop
  | .bor xs => ∃ a vs, v = .ref a ∧ H' a = some (.lst vs) ∧ vs.length ≤ sizeLine ∧ ¬ g.F a ∧ Z' a = none ∧ Reps g Z' vs xs
  | .new xs => ∃ a vs, v = .ref a ∧ H' a = some (.lst vs) ∧ vs.length ≤ sizeLine ∧ ¬ g.F a ∧ Z' a = none ∧ H a = none ∧ Reps g Z' vs xs
  | .non => Rep g Z' v .non
  | .bl b => Rep g Z' v (.bl b)
  | .int i => Rep g Z' v (.int i)
  | .str x => Rep g Z' v (.str x)
  | .tup xs => Rep g Z' v (.tup xs)
  | .lst xs => Rep g Z' v (.lst xs)
  | .emp => Rep g Z' v .emp
  | .exc c => Rep g Z' v (.exc c)
  | .sta => Rep g Z' v .sta
  | .scr ns => Rep g Z' v (.scr ns)
theorem RepR.of {H Z' H' : Hp} {v : V} {d : D} (h : Rep g Z' v d) : RepR g H Z' H' v d := by
  cases d <;> first | exact h | cases h
theorem RepR.step {H Z1 H1 Z2 H2 : Hp} {v : V} {d : D} (r : RepR g H Z1 H1 v d) (s : Step g Z1 H1 Z2 H2) : RepR g H Z2 H2 v d := by
  have nz : ∀ a o, H1 a = some o → Z1 a = none → Z2 a = none := fun a o h hz => by
    rcases none_or (H := Z2) (a := a) with e | ⟨u, e⟩
    · exact e
    · rcases s.new a u e with q | q
      · rw [hz] at q; cases q
      · rw [h] at q; cases q
  cases d <;> first
    | exact Rep.mono s.z r
    | (obtain ⟨a, vs, rfl, h1, h2, h3, h4, h5, h6⟩ := r; exact ⟨a, vs, rfl, s.h _ _ h1 h3, h2, h3, nz _ _ h1 h4, h5, h6.mono s.z⟩)
    | (obtain ⟨a, vs, rfl, h1, h2, h3, h4, h6⟩ := r; exact ⟨a, vs, rfl, s.h _ _ h1 h3, h2, h3, nz _ _ h1 h4, h6.mono s.z⟩)
theorem RepR.back {H Z H1 Z1 Z2 H2 : Hp} {v : V} {d : D} (s : Step g Z H Z1 H1) (r : RepR g H1 Z2 H2 v d) : RepR g H Z2 H2 v d := by
  cases d <;> first
    | exact r
    | (obtain ⟨a, vs, rfl, h1, h2, h3, h4, h5, h6⟩ := r
       refine ⟨a, vs, rfl, h1, h2, h3, h4, ?_, h6⟩
       rcases none_or (H := H) (a := a) with e | ⟨u, e⟩
       · exact e
       · rw [s.h _ _ e h3] at h5; cases h5)
/-- stored -/
theorem fz_ok {Z H Z' H' : Hp} {v : V} {d : D} {P : Nat → D → Prop} {E : Nat → Nat → Prop} {m : Nat} (s : Step g Z H Z' H') (r : RepR g H Z' H' v d) (h : (fz d).All P E m) : ∃ d' Z2, P m d' ∧ Step g Z H Z2 H' ∧ Sub Z' Z2 ∧ Rep g Z2 v d' := by
  cases d <;> first
    | exact ⟨_, Z', h, s, fun _ _ e => e, r⟩
    | exact h.elim
    | (obtain ⟨a, vs, rfl, h1, h2, h3, h4, h5, h6⟩ := r
       exact ⟨_, upd Z' a (.lst vs), h, s.freeze h5 h1 h4 h3, sub_new h4, .lst upd_same h2 (h6.mono (sub_new h4))⟩)
/-- what stands behind -/
def Post (g : G) (Z H : Hp) (Q : VK) (m : Nat) (d : D) : Prop := ∀ v Z' H', Step g Z H Z' H' → g.bud H' = m → RepR g H Z' H' v d → Q v H'
def PostE (g : G) (Z H : Hp) (W : Nat → Hp → Prop) (m : Nat) (c : Nat) : Prop := ∀ Z' H', Step g Z H Z' H' → g.bud H' = m → W c H'
theorem Post.shift {Z H Z1 H1 : Hp} {Q : VK} {d : D} {m : Nat} (s : Step g Z H Z1 H1) (h : Post g Z H Q m d) : Post g Z1 H1 Q m d := fun v Z' H' t e r => h v Z' H' (s.trans t) e (r.back s)
theorem PostE.shift {Z H Z1 H1 : Hp} {W : Nat → Hp → Prop} {c : Nat} {m : Nat} (s : Step g Z H Z1 H1) (h : PostE g Z H W m c) : PostE g Z1 H1 W m c := fun Z' H' t e => h Z' H' (s.trans t) e
/-- the answer is there -/
theorem Post.now {Z H : Hp} {Q : VK} {d : D} {v : V} (p : Pre g Z H) (h : Post g Z H Q (g.bud H) d) (r : Rep g Z v d) : Q v H := h v Z H (.refl p) rfl (.of r)
theorem Post.newL {Z H : Hp} {Q : VK} {ds : List D} {vs : List V} (p : Pre g Z H) (h : Post g Z H Q (g.bud H) (.new ds)) (r : Reps g Z vs ds) (hl : vs.length ≤ sizeLine) {a : Addr} (ha : H a = none) : Q (.ref a) (upd H a (.lst vs)) :=
  h _ Z _ (.newH p ha) (bud_upd p (p.nF ha)) ⟨a, vs, rfl, upd_same, hl, p.nF ha, p.nZ ha, ha, r⟩
theorem Post.newT {Z H : Hp} {Q : VK} {ds : List D} {vs : List V} (p : Pre g Z H) (h : Post g Z H Q (g.bud H) (.tup ds)) (r : Reps g Z vs ds) (hl : vs.length ≤ sizeLine) {a : Addr} (ha : H a = none) : Q (.ref a) (upd H a (.tup vs)) :=
  h _ (upd Z a (.tup vs)) _ (.newZ p ha) (bud_upd p (p.nF ha)) (.of (.tup upd_same hl (r.mono (sub_new (p.nZ ha)))))

/-- a list or a tuple is to be read -/
theorem RepR.seq {H0 Z H : Hp} {v : V} {d : D} {ds : List D} (p : Pre g Z H) (r : RepR g H0 Z H v d) (h : items d = some ds) : ∃ a vs, v = .ref a ∧ (SqL g.K H a vs ∨ SqT g.K H a vs) ∧ vs.length ≤ sizeLine ∧ Reps g Z vs ds := by
  cases d <;> simp [items] at h
  · subst h; cases r with | tup h1 h2 h3 => exact ⟨_, _, rfl, .inr (.of (p.zh _ _ h1)), h2, h3⟩
  · subst h; cases r with | lst h1 h2 h3 => exact ⟨_, _, rfl, .inl (.of (p.zh _ _ h1)), h2, h3⟩
  · subst h; cases r with | scr h1 h2 => exact ⟨_, _, rfl, .inl (sq_sub p.zh h1), by rw [List.length_map, sizeLine_eq]; omega, Reps.ofInts _⟩
  · subst h; obtain ⟨a, vs, rfl, h1, h2, h3, h4, h5⟩ := r; exact ⟨a, vs, rfl, .inl (.of h1), h2, h5⟩
  · subst h; obtain ⟨a, vs, rfl, h1, h2, h3, h4, h5, h6⟩ := r; exact ⟨a, vs, rfl, .inl (.of h1), h2, h6⟩
theorem RepR.lst {H0 Z H : Hp} {v : V} {d : D} {ds : List D} (p : Pre g Z H) (r : RepR g H0 Z H v d) (h : seqL d = some ds) : ∃ a vs, v = .ref a ∧ H a = some (.lst vs) ∧ vs.length ≤ sizeLine ∧ Reps g Z vs ds := by
  cases d <;> simp [seqL] at h
  · subst h; cases r with | lst h1 h2 h3 => exact ⟨_, _, rfl, p.zh _ _ h1, h2, h3⟩
  · subst h; obtain ⟨a, vs, rfl, h1, h2, h3, h4, h5⟩ := r; exact ⟨a, vs, rfl, h1, h2, h5⟩
  · subst h; obtain ⟨a, vs, rfl, h1, h2, h3, h4, h5, h6⟩ := r; exact ⟨a, vs, rfl, h1, h2, h6⟩
mutual
theorem Rep.dp {Z H : Hp} (e : Sub Z H) : ∀ {v : V} {d : D}, Rep g Z v d → d.toPy.canLay0 = true → Dp g.K H v d.toPy
  | _, _, .non, _ => .non
  | _, _, .bl b, _ => .bl b
  | _, _, .int i, _ => .int i
  | _, _, .str x, _ => .str x
  | _, _, .tup h l r, c => .tup (.of (e _ _ h)) (Reps.dp e r (by simpa [D.toPy, PyData.canLay0] using c))
  | _, _, .lst h l r, c => .lst (.of (e _ _ h)) (Reps.dp e r (by simpa [D.toPy, PyData.canLay0] using c))
  | _, _, .emp h, c => by simp [D.toPy, PyData.canLay0] at c
  | _, _, .scr h l, _ => .lst (sq_sub e h) (dpInts _)
  | _, _, .sta, c => by simp [D.toPy, PyData.canLay0] at c
  | _, _, .exc h, c => by simp [D.toPy, PyData.canLay0] at c
theorem Reps.dp {Z H : Hp} (e : Sub Z H) : ∀ {vs : List V} {ds : List D}, Reps g Z vs ds → PyData.canLayAll0 (D.toPys ds) = true → DpAll g.K H vs (D.toPys ds)
  | _, _, .nil, _ => .nil
  | _, _, .cons r t, c => by
    simp [D.toPys, PyData.canLayAll0] at c
    exact .cons (Rep.dp e r c.1) (Reps.dp e t c.2)
theorem dpInts {H : Hp} : ∀ ns : List Int, DpAll g.K H (ns.map V.int) (ns.map PyData.int)
  | [] => .nil
  | n :: ns => .cons (.int n) (dpInts ns)
end
theorem RepR.dp {H0 Z H : Hp} {v : V} {d : D} (p : Pre g Z H) (r : RepR g H0 Z H v d) (c : okPy d = true) : Dp g.K H v d.toPy := by
  have c0 : d.toPy.canLay0 = true := SeqAt.canLay_of_shaped c
  cases d <;> first
    | exact Rep.dp p.zh r c0
    | (obtain ⟨a, vs, rfl, h1, h2, h3, h4, h5, h6⟩ := r; exact .lst (.of h1) (Reps.dp p.zh h6 (by simpa [D.toPy, PyData.canLay0] using c0)))
    | (obtain ⟨a, vs, rfl, h1, h2, h3, h4, h6⟩ := r; exact .lst (.of h1) (Reps.dp p.zh h6 (by simpa [D.toPy, PyData.canLay0] using c0)))
end PV
end
section
set_option maxHeartbeats 4000000
/-! PvX: an exception that a handler keeps as a value. -/
namespace PV
open PySem PySem.Spec PyProof.Rows L2
section
variable {X : Cx} {pins : List (Addr × Obj)} {σ : L2.St} {H : Hp} {s : Shared} {a : Addr} {oe : Obj} {vs : Array Value} {cls : Value}
theorem exV_ok {h : Heap} (e : h.get? a = some oe) (z : Zc cls none oe) (d : oe.data = .fields vs) : ObjOk X.prog X.w H h a (ExV cls a) :=
  ⟨⟨oe, vs, e, z, d⟩, ⟨oe, e⟩, fun _ _ ⟨o, v, q, r⟩ k => ⟨o, v, k o q, r⟩⟩
/-- it is told of from now on -/
theorem track (I : Inv X pins σ H s) (e : s.heap.get? a = some oe) (z : Zc cls none oe) (d : oe.data = .fields vs) (na : H a = none) (n0 : X.s_0.heap.get? a = none) (nL : a ≠ X.env.locals) (np : ∀ p ∈ X.pn ++ pins, p.1 ≠ a) :
    Inv X pins σ (upd H a (ExV cls a)) s := by
  have was : ∀ b o, X.s_0.heap.get? b = some o → b ≠ a := fun b o q k => by rw [k, n0] at q; cases q
  have other : ∀ b o, H b = some o → b ≠ a := fun b o q k => by rw [k, na] at q; cases q
  have ncell : ∀ x c, X.env.cells.lookup x = some c → c ≠ a := fun x c q k => by
    obtain ⟨v, o, h1, h2⟩ := I.cell x c q
    rw [k, e] at h1
    cases h1
    rw [d] at h2
    cases h2
  have up : ∀ b o, H b = some o → upd H a (ExV cls a) b = some o := fun b o q => by
    rw [upd_ne (other b o q)]
    exact q
  exact {
    ok := I.ok
    os := I.os
    bare := I.bare
    base := {
      keep := I.base.keep
      slot := I.base.slot
      free := fun b o q h1 h2 => by rw [upd_ne (was b o q)]; exact I.base.free b o q h1 h2
      there := I.base.there
      tups := fun b xs q => up b _ (I.base.tups b xs q)
      frzs := fun b o u q => up b _ (I.base.frzs b o u q)
      tbls := fun b ps q => let ⟨m, q2⟩ := I.base.tbls b ps q; ⟨m, up b _ q2⟩ }
    loc := I.loc
    cell := I.cell
    free := by rw [upd_ne (Ne.symm nL)]; exact I.free
    freeC := fun x c q => by rw [upd_ne (ncell x c q)]; exact I.freeC x c q
    pin := fun p hp => by
      obtain ⟨h1, h2, h3⟩ := I.pin p hp
      exact ⟨h1, by rw [upd_ne (np p hp)]; exact h2, h3⟩
    hok := fun b u q => by
      by_cases hb : b = a
      · subst hb
        rw [upd_same] at q
        cases q
        exact exV_ok (X := X) e z d
      · rw [upd_ne hb] at q
        exact (I.hok b u q).stay (fun _ _ _ r => r) (fun c r => up c _ r) fun c xs r => up c _ r
    len := I.len }
end
/-! ### try: body, except x as n: m = n -/
/-- what the clause wishes of the body's errors -/
def wKeep (K : PySem.W.Frag) (c : Value) (i j : Nat) (D : Ends) : WX := fun cls d σ H =>
  d = none ∧ PySem.W.exmOne K cls c = some true ∧ ∀ a, H a = none → j < σ.length → D.nx (((σ.set i (some (.ref a))).set j (some (.ref a))).set i none) (upd H a (ExV cls a))
section
variable {X : Cx} {x n m : Str} {c : Value} {i j : Nat} {body : List Stmt} {np pm pe pa pos pos' : Pos} {tb : WX → TS}
theorem ps_try_keep (hs : X.stack = X.env :: X.outer) (hf : X.env.frame = some X.env.locals) (hex : X.ex = []) (hN : X.N.Nodup) (hi : X.N[i]? = some n) (hj : X.N[j]? = some m) (hln : X.env.kindOf n = some .local) (hlm : X.env.kindOf m = some .local) (hc : Names X x c)
    (hnd : (n == ("__debug__" : Str)) = false) (hncd : (n == ("__classdict__" : Str)) = false)
    (hb : ∀ (W : WX) (pn : List (Addr × Obj)) (xe : Value → Shared → Prop), Takes (X.tr pn xe) W → PassesOwn (model X.prog X.w) X.A X.env xe → PSs (X.tr pn xe) body (tb W)) :
    PS X (.Try body [.ExceptHandler (some (.Name x np)) (some n) [.Assign [.Name m pm] (.Name n pe) pa] pos'] [] [] pos) (fun D σ H => tb (wKeep X.K c i j D) D σ H) := by
  refine ⟨fun pins s σ H D I h => ?_⟩
  have ok := I.ok
  have frames : X.A.frames = some (X.env :: X.outer) := by rw [ok.frames, hs]
  have nloc : Loc X.env.scope n := .inl hln
  have mloc : Loc X.env.scope m := .inl hlm
  refine wpAny_Try_except ?_
  have run := (hb (wKeep X.K c i j D) (X.pn ++ pins) (fun e s₁ => wpAny (model X.prog X.w) X.A (noteFrame e X.env) (fun _ s₂ => wpAny (model X.prog X.w) X.A (setFlight e none) (fun _ s₃ =>
    wpAny (model X.prog X.w) X.A (handleBy e X.env [.ExceptHandler (some (.Name x np)) (some n) [.Assign [.Name m pm] (.Name n pe) pa] pos']) (SP X pins D) X.xe s₃) X.xe s₂) X.xe s₁) (fun u s' xx => ?_) PassesOwn.looking).run [] s σ H D (I.toTry _) h
  · refine wpAny_mono run (fun f s1 hsp => ?_) fun e s1 he => he
    cases f with
    | next =>
      obtain ⟨σ', H', J', q⟩ := hsp
      exact wpAny_execs_nil ⟨σ', H', J'.ofTry ok, q⟩
    | brk =>
      obtain ⟨σ', H', J', q⟩ := hsp
      exact ⟨σ', H', J'.ofTry ok, q⟩
    | cont =>
      obtain ⟨σ', H', J', q⟩ := hsp
      exact ⟨σ', H', J'.ofTry ok, q⟩
    | ret u =>
      obtain ⟨v, σ', H', J', r, q⟩ := hsp
      exact ⟨v, σ', H', J'.ofTry ok, r, q⟩
  · -- the catch
    obtain ⟨a, B, sI, pins', σ', H', cls, d, rfl, J', nb, up, sky, na, os, ag, rfl, hb1, hyes⟩ := xx
    have J : Inv X pins σ' H' sI := J'.ofTry ok
    have sky1 : Sky B (X.env :: X.outer) a (Zc cls none) X.env.locals s'.heap := by rw [← hs]; exact sky
    show wpAny (model X.prog X.w) X.A (noteFrame (.ref a) X.env) _ _ _
    refine Sky.land Zc.steady frames hf sky1 fun h3 fl3 up3 => ?_
    have J3 : Inv X pins σ' H' { s' with heap := h3 } := J.landed nb fl3.1 (up.trans up3) os ag
    obtain ⟨o3, v3, he3, hz3, hd3⟩ := fl3.there
    have nfr : a ∉ frs (X.env :: X.outer) := fun hm => by
      obtain ⟨_, o1, e1, hnf⟩ := fl3.2.2.1.mem hm
      rw [he3] at e1
      cases e1
      exact hnf _ hd3
    have nL : a ≠ X.env.locals := fun z => nfr (List.mem_filterMap.mpr ⟨X.env, List.mem_cons_self, by rw [hf, z]⟩)
    have nF : a ∉ X.fs := fun hm => by
      obtain ⟨e, he, q⟩ := List.mem_filterMap.mp hm
      exact nfr (List.mem_filterMap.mpr ⟨e, List.mem_cons_of_mem _ he, q⟩)
    have nI : sI.heap.get? a = none := by
      cases q : sI.heap.get? a with
      | none => rfl
      | some o =>
        have z := nb a o q (by rw [hs]; exact nfr)
        rw [fl3.2.1] at z
        cases z
    have n0 : X.s_0.heap.get? a = none := by
      cases q : X.s_0.heap.get? a with
      | none => rfl
      | some o =>
        obtain ⟨o1, z⟩ := J.base.there a o q (by rw [hex]; exact fun h => nomatch h)
        rw [nI] at z
        cases z
    have apart : ∀ p ∈ X.pn ++ pins, p.1 ≠ a := fun p hp z => by
      have q := (J.pin p hp).1
      rw [z, nI] at q
      cases q
    have S3 := J3.suite he3 hd3 na nL nF
    refine wpAny_handleBy_cons (codeAny_handlers_test ?_) (by intro q; cases q)
    have LT : PySem.W.Looks (model X.prog X.w) h3 (typeOf (.ref a)) cls := fun A Q E s k q => wpAny_typeOf_ref (k _ _ he3) (by rw [hz3.1]; exact q)
    have LM := PySem.W.exm_one (M := model X.prog X.w) (J3.kIn) LT hb1
    have test : ∀ {Q : Value → Shared → Prop} {E : Value → Shared → Prop}, Q c { s' with heap := h3 } → wpAny (model X.prog X.w) (X.A.mark (some (.ref a))) (eval (.Name x np) X.env) Q E { s' with heap := h3 } := fun {Q E} q => by
      obtain ⟨hg, hdbg, hm | ⟨hm, hv, hnn⟩⟩ := hc
      · exact ld_glob (X := X.suite a ((a, o3) :: (X.pn ++ pins))) S3 hg hm q hdbg
      · exact ld_blt (X := X.suite a ((a, o3) :: (X.pn ++ pins))) S3 hg hm hv q hnn hdbg
    refine test (LM.here ?_)
    refine codeAny_handlers_suite_as ?_
    refine HandSPX.lands_againZ fl3 fun h4 fl4 up4 => ?_
    have J4 : Inv X pins σ' H' { s' with heap := h4 } := J.landed nb fl4.1 ((up.trans up3).trans up4) os ag
    obtain ⟨o4, v4, he4, hz4, hd4⟩ := fl4.there
    have S4 := J4.suite he4 hd4 na nL nF
    refine store_ok (X := X.suite a ((a, o4) :: (X.pn ++ pins))) (v := .ref a) S4 hN hi nloc rfl (fun s5 S5 => ?_) (.inr hln)
    have one : PSs (X.suite a ((a, o4) :: (X.pn ++ pins))) [.Assign [.Name m pm] (.Name n pe) pa] (tAsg (tVar i) (gName j)) := pss_one (ps_set hN hj mloc (pe_var hi (.inl hln) hnd hncd) (hf := .inr hlm))
    have hlen : i < σ'.length := by rw [J.len]; exact (List.getElem?_eq_some_iff.mp hi).1
    refine wpAny_mono (one.run [] s5 (σ'.set i (some (.ref a))) H' { nx := fun σ6 H6 => σ6 = (σ'.set i (some (.ref a))).set j (some (.ref a)) ∧ H6 = H', rt := fun _ _ => False, bk := fun _ _ => False, ct := fun _ _ => False } S5 ⟨.ref a, by rw [List.getElem?_set_self hlen], rfl, rfl⟩) (fun f s6 hsp => ?_) (fun _ _ z => False.elim z)
    cases f with
    | next =>
      obtain ⟨σ6, H6, S6, e6, e7⟩ := hsp
      subst e6 e7
      have e := (S6.pin (a, o4) (List.mem_append_left _ List.mem_cons_self)).1
      have J6 := track (cls := cls) (S6.unsuite ok) e hz4 hd4 na n0 nL apart
      exact gone_ok J6 hN hi hln fun s7 J7 => ⟨_, _, J7, hyes a na (by rw [J.len]; exact (List.getElem?_eq_some_iff.mp hj).1)⟩
    | brk =>
      obtain ⟨_, _, _, q⟩ := hsp
      exact q.elim
    | cont =>
      obtain ⟨_, _, _, q⟩ := hsp
      exact q.elim
    | ret u =>
      obtain ⟨_, _, _, _, _, q⟩ := hsp
      exact q.elim
end
/-! ### _law_caught -/
section
open LamX
variable {X : Cx}
def TKeep (K : PySem.W.Frag) (CS : Addr) : (XK → Hp → VK → Prop) → Hp → VK → Prop := fun tl H Q =>
  tl (fun cls d H' => d = none ∧ PySem.W.exmOne K cls (.ref CS) = some true ∧ ∀ a, H' a = none → Q (.ref a) (upd H' a (ExV cls a))) H fun _ H' => Q .non H'
def NC : List Str := ["work", "caught", "error"]
def caughtB (p1 p2 p3 p4 p5 p6 p7 p8 p9 p10 p11 p12 p13 p14 : Pos) (k : Nat) : List Stmt :=
  [.Assign [.Name "caught" p1] (.Constant .none k p2) p3,
   .Try [.Expr (.Call (.Name "work" p4) [] [] p5) p6] [.ExceptHandler (some (.Name "HoweverError" p7)) (some "error") [.Assign [.Name "caught" p8] (.Name "error" p9) p10] p11] [] [] p12,
   .Return (some (.Name "caught" p13)) p14]
theorem keep_gives {x q : Str} {sg : Scope} {g CS : Addr} {cdg : Value} {k : Nat} {p1 p2 p3 p4 p5 p6 p7 p8 p9 p10 p11 p12 p13 p14 : Pos}
    (hge : sg.names.lookup ("HoweverError" : Str) = some .globalImplicit) (hme : X.mg "HoweverError" = some (.ref CS)) (h1 : sg.names.lookup ("caught" : Str) = some .local) (h2 : sg.names.lookup ("error" : Str) = some .local) :
    GivesTo X NC x sg g cdg (caughtB p1 p2 p3 p4 p5 p6 p7 p8 p9 p10 p11 p12 p13 p14 k) "work" q (TKeep X.K CS) := by
  intro f c' s H Q tl act hc h
  have nd : NC.Nodup := by decide +kernel
  have hgl : Gl (cxOf C8.CX0 X.prog X.w X.K X.mg X.base NC x sg g cdg X.A X.stack s H C8.E0).nox "HoweverError" := hge
  refine ⟨_, pss_cons (ps_set (i := 1) nd rfl (.inl h1) pe_non (hf := .inr h1)) (pss_cons (ps_try_keep (X := (cxOf C8.CX0 X.prog X.w X.K X.mg X.base NC x sg g cdg X.A X.stack s H C8.E0).nox) (c := .ref CS) (i := 2) (j := 1)
      (tb := fun W D σ H => ∃ Ech : XK, (∀ cls d σ' H', Ech cls d H' → W cls d σ' H') ∧ σ[0]? = some (some (.ref f)) ∧ H c' = some (CodeO c' q) ∧ tl Ech H fun _ H' => D.nx σ H')
      rfl rfl rfl nd rfl rfl h2 h1 ⟨hgl, by decide +kernel, .inl hme⟩ (by decide +kernel) (by decide +kernel) (fun W pn xe tk _ => ?_)) (pss_one (ps_ret (pe_var (i := 1) rfl (.inl h1) (by decide +kernel) (by decide +kernel))))), ?_⟩
  · refine ⟨fun pins s' σ H' D I h' => ?_⟩
    obtain ⟨Ech, hW, a1, a2, a3⟩ := h'
    have hp := act W pn xe Ech p4 p5 tk hW
    have hq := pss_one (ps_expr (pos := p6) hp)
    exact hq.run pins s' σ H' D I ⟨a1, a2, a3⟩
  · refine ⟨fun cls d H' => d = none ∧ PySem.W.exmOne X.K cls (.ref CS) = some true ∧ ∀ a, H' a = none → Q (.ref a) (upd H' a (ExV cls a)), fun cls d σ' H' ⟨e1, e2, e3⟩ => ⟨e1, e2, fun a ha hl => ⟨.ref a, by rw [List.getElem?_set_ne (by decide), List.getElem?_set_self (by rw [List.length_set]; exact hl)], e3 a ha⟩⟩, rfl, hc, ?_⟩
    have e : (fun (_ : V) (H' : Hp) => ∃ v, (List.set (L2.start NC [V.ref f]) 1 (some V.non))[1]? = some (some v) ∧ Q v H') = fun _ H' => Q .non H' := by
      funext _ H'
      refine propext ⟨fun ⟨v, q1, q2⟩ => ?_, fun q => ⟨.non, rfl, q⟩⟩
      have q3 : some (some V.non) = some (some v) := q1
      cases q3
      exact q2
    show tl _ H (fun (_ : V) (H' : Hp) => ∃ v, (List.set (L2.start NC [V.ref f]) 1 (some V.non))[1]? = some (some v) ∧ Q v H')
    rw [e]
    exact h
end
/-! ### tables that nobody asked for are forgotten -/
/-- H1 without the tables that H has not -/
def dropT (H H1 : Hp) : Hp := fun b => match H1 b with
  | some (.tbl ps) => (match H b with
    | some (.tbl _) => some (.tbl ps)
    | _ => none)
  | o => o
section
variable {H H1 : Hp} {b : Addr} {u : HO}
theorem dropT_sub (h : dropT H H1 b = some u) : H1 b = some u := by
  unfold dropT at h
  split at h
  · rename_i e
    split at h
    · rw [e]; exact h
    · cases h
  · exact h
theorem dropT_keep (h : H1 b = some u) (n : ∀ ps, u ≠ .tbl ps) : dropT H H1 b = some u := by
  unfold dropT
  split
  · rename_i e
    rw [h] at e
    cases e
    exact absurd rfl (n _)
  · exact h
theorem dropT_tbl {ps qs : Array Value} (h : H1 b = some (.tbl ps)) (k : H b = some (.tbl qs)) : dropT H H1 b = some (.tbl ps) := by
  unfold dropT
  rw [h, k]
theorem dropT_new {ps : Array Value} (h : dropT H H1 b = some (.tbl ps)) : ∃ qs, H b = some (.tbl qs) := by
  have e := dropT_sub h
  unfold dropT at h
  rw [e] at h
  dsimp only at h
  split at h
  · rename_i q; exact ⟨_, q⟩
  · cases h
theorem dropT_none (h : H1 b = none) : dropT H H1 b = none := by
  unfold dropT
  rw [h]
end
theorem untbl {X : Cx} {pins pins1 : List (Addr × Obj)} {σ τ : L2.St} {H H1 : Hp} {s s1 : Shared} (I : Inv X pins σ H s) (J : Inv X pins1 τ H1 s1) : Inv X pins1 τ (dropT H H1) s1 where
  ok := J.ok
  os := J.os
  bare := J.bare
  base := {
    keep := J.base.keep
    slot := J.base.slot
    free := fun b o q h1 h2 => dropT_none (J.base.free b o q h1 h2)
    there := J.base.there
    tups := fun b xs q => dropT_keep (J.base.tups b xs q) fun _ z => by cases z
    frzs := fun b o u q => dropT_keep (J.base.frzs b o u q) fun _ z => by cases z
    tbls := fun b ps q => by
      obtain ⟨m, e1⟩ := J.base.tbls b ps q
      obtain ⟨k, e2⟩ := I.base.tbls b ps q
      exact ⟨m, dropT_tbl e1 e2⟩ }
  loc := J.loc
  cell := J.cell
  free := dropT_none J.free
  freeC := fun x c q => dropT_none (J.freeC x c q)
  pin := fun p hp => let ⟨h1, h2, h3⟩ := J.pin p hp; ⟨h1, dropT_none h2, h3⟩
  hok := fun b u q => (J.hok b u (dropT_sub q)).stay (fun _ _ _ r => r) (fun c r => dropT_keep r fun _ z => by cases z) fun c xs r => dropT_keep r fun _ z => by cases z
  len := J.len
section
open LamX
/-- what a call with a lambda asks: no table is new, those of the entry stay -/
def tLamN (H0 : Hp) (T : List (Addr × Str)) (TT : (XK → Hp → VK → Prop) → Hp → VK → Prop) (t : XK → TE) : TE := fun σ H Q => Tabs T H ∧
  ∀ H1, ExtN H H1 → (∀ a ps, H1 a = some (.tbl ps) → ∃ qs, H a = some (.tbl qs)) → (∀ a ps, H0 a = some (.tbl ps) → ∃ qs, H1 a = some (.tbl qs)) → Tabs T H1 → TT (fun E H' Q' => t E σ H' Q') H1 Q
theorem pe_lamN {X : Cx} {T : List (Addr × Str)} {TT : (XK → Hp → VK → Prop) → Hp → VK → Prop} {x a : Str} {ga c P : Addr} {k : Nat} {pg : Arguments} {bg : List Stmt} {sg : Scope} {dV kV doc pm cdv ct oc : Value} {an od : Option Addr} {osl : Array (Option Value)} {Ng : List Str}
    {params : Arguments} {body : Expr} {scope : Scope} {t : XK → TE} {p lpos pos : Pos} (hg : Gl X x) (hm : X.mg x = some (.ref ga)) (hk : PySem.W.keepIn X.K (.ref ga) = true)
    (lk : X.K.lookup ga = some ⟨oc, od, .func (PySem.W.fnOf x x pg bg sg dV kV doc pm an cdv ct), osl⟩) (hcg : PySem.W.codeIn X.K cdv x = true)
    (hb : L2.Binds X.K (PySem.W.fnOf x x pg bg sg dV kV doc pm an cdv ct) [a] []) (Sg : FnScope Ng [a] sg) (hNg : Ng[0]? = some a) (hva : Vis sg a) (hG : GivesTo X Ng x sg ga cdv bg a (X.env.qual ++ "<lambda>") TT)
    (TB : TabB X.base X.mg c P) (hcode : X.env.code = .ref c) (hmT : (P, X.env.qual ++ "<lambda>") ∈ T) (hu : ∀ p ∈ T, p.1 = P → p.2 = X.env.qual ++ "<lambda>")
    (hr : Room (k + 2) X.A) (L : LamS X.env.scope scope) (hdef : defaultsOf params X.env = ([], []))
    (hbind : ∀ (q : Str) (cl : List (Str × Addr)) (pm cv ctv : Value), bindArgs (PySem.W.kla_fn "<lambda>" q params body scope cl pm cv ctv) ⟨[], []⟩ = pure [])
    (hbody : ∀ (A : Around) (outer : List PySem.Env) (s : Shared) (H : Hp) (E : XK) (f c' : Addr), Room k (A.deeper (lamEnv X scope s.heap.objs.size f c')) → PE (lamCx X A outer s H E scope f c') body (t E))
    (hdb : (x == ("__debug__" : Str)) = false) (hd : (a == ("__debug__" : Str)) = false) (hcd : (a == ("__classdict__" : Str)) = false) :
    PE X (.Call (.Name x p) [.Lambda params body scope lpos] [] pos) (tLamN X.H_0 T TT t) := by
  refine ⟨fun pins s σ H Q I h => ?_⟩
  obtain ⟨tabs, rest⟩ := h
  refine wpAny_Call_Name_kw (ld_glob I hg hm ?_ hdb)
  refine PySem.W.callWith_K (h₀ := X.base) I.ok.mod.kin hk ?_ (by rfl) (by rfl)
  refine Calls.spliced_cons (lam_make2 I TB hcode hmT hu tabs hdef (L.has I.ok) fun f c' pm' ctv H1 s' I1 eN T1 hf hfn hfr hco => ?_)
  have J := untbl I I1
  have eN' : ExtN H (dropT H H1) := fun b o e n => dropT_keep (eN b o e n) n
  have tabs' : Tabs T (dropT H H1) := fun q hq => by
    obtain ⟨ps, a1, a2, a3⟩ := T1 q hq
    obtain ⟨ps0, b1, _, _⟩ := tabs q hq
    exact ⟨ps, dropT_tbl a1 b1, a2, fun pos cv hc => let ⟨d, e1, e2⟩ := a3 pos cv hc; ⟨d, e1, dropT_keep e2 codeO_ne⟩⟩
  have hco' : dropT H H1 c' = some (CodeO c' (X.env.qual ++ "<lambda>")) := dropT_keep hco codeO_ne
  refine Calls.spliced_nil ⟨J.kIn, ?_⟩
  have rc : codeAny (model X.prog X.w) X.A (.call (.ref ga) ⟨[.ref f], []⟩) (CR C8.CX0 X.stack X.prog X.w (dropT H H1) s' Q C8.E0) s' := by
    refine run_ofS (N := Ng) (us := [.ref f]) (vs := [.ref f]) (ps := [a]) lk hcg Sg hr J.env0 (hb s' [.ref f] J.kIn rfl) (.cons rfl .nil) rfl fun hr2 => ?_
    obtain ⟨tt, u1, u2⟩ := hG f c' s' (dropT H H1) Q (fun E H' Q' => t E σ H' Q')
      (fun W pn xe E p1 p2 tk hW => pe_act (i := 0) J L hf (dropT_none hfn) hfr (hbind _ _ _ _ _) tk hW hr2 (fun A outer s H r3 => hbody A outer s H E f c' r3) hNg hva hd hcd) hco'
      (rest _ eN' (fun _ _ e => dropT_new e) (fun b ps e => by obtain ⟨m, e1⟩ := J.base.tbls b ps e; exact ⟨_, e1⟩) tabs')
    exact ⟨tt, u1.nox, u2⟩
  refine wpAny_call (codeAny_mono rc fun r s2 hq => ?_)
  cases r with
  | error e => exact (show False from hq).elim
  | ok fl =>
    cases fl with
    | ret u => exact J.after hq
    | next => exact hq.elim
    | brk => exact hq.elim
    | cont => exact hq.elim
end
/-! ### isinstance of an exception that is kept -/
def rIsX (K : PySem.W.Frag) : List V → Hp → VK → Prop := fun xs H Q => ∃ (a D C : Addr) (b : Bool), xs = [.ref a, .ref C] ∧ H a = some (ExV (.ref D) a) ∧ ExcC K D ∧ PySem.W.kitOne K (.ref D) (.ref C) = some b ∧ Q (.bl b) H
theorem call_isX {X : Cx} : CallR X (.builtin "isinstance") (rIsX X.K) := by
  rintro pins s σ H xs us Q I r ⟨a, D, C, b, rfl, hH, c, e, q⟩
  match us, r with
  | _, .cons ra (.cons rc .nil) =>
    cases ra
    cases rc
    obtain ⟨⟨oe, vs, h1, h2, h3⟩, _⟩ := I.hok a _ hH
    have J : PySem.W.InstAt s.heap a oe D none := by
      rcases oe with ⟨k1, k2, k3, k4⟩
      cases h2.1
      cases h2.2
      cases h3
      exact ⟨h1, rfl, rfl, trivial⟩
    exact PySem.W.kia_one (PySem.W.handS_kitx_exc c.hg c.hk c.hs c.hd c.ha c.hn c.ht c.hm) I.kIn J e (by intro z; cases z) fun tk => ⟨.bl b, H, I.kept (t' := tk) fun _ _ z => z, rfl, q⟩
end PV
end
section
set_option maxHeartbeats 4000000
/-! PvR: t[::-1] of a tuple, f(*a, k = b). -/
namespace PV
open PySem PySem.Spec PyProof.Rows L2
section
variable {prog : Program} {w : World} {A : Around} {E : Value → Shared → Prop} {s : Shared}
theorem adjust_rev (n : Nat) : Builtin.Slice.sliceAdjust none none (-1) (n : Int) = ((n : Int) - 1, -1) := by
  unfold Builtin.Slice.sliceAdjust
  simp
theorem places_rev (n : Nat) : Builtin.Slice.slicePlaces ((n : Int) - 1) (-1) (-1) = n := by
  unfold Builtin.Slice.slicePlaces
  simp only [show ¬ ((-1 : Int) > 0) by decide, if_false, show (- -1 : Int) = 1 by decide, Int.ediv_one]
  split <;> omega
theorem sliceApplied_rev {sl : Addr} {vl vu vs : Value} {n : Nat} {Q : Int × Int × Nat → Shared → Prop} (hs : s.heap.IsSliceOf sl vl vu vs) (pl : IsPart vl none) (pu : IsPart vu none) (ps : IsPart vs (some (-1)))
    (h : Q ((n : Int) - 1, -1, n) s) : wpAny (model prog w) A (Builtin.Slice.sliceApplied (.ref sl) (pure (n : Int))) Q E s := by
  obtain ⟨os, hos, hcs, hds⟩ := id hs
  unfold Builtin.Slice.sliceApplied Builtin.Slice.sliceFields
  refine wpAny_bind (wpAny_bind (wpAny_field hos hds (x := vl) rfl (wpAny_bind (wpAny_field hos hds (x := vu) rfl (wpAny_bind (wpAny_field hos hds (x := vs) rfl (wpAny_pure ?_)))))))
  refine wpAny_bind (HT.slicePart_ ps ?_)
  show wpAny _ _ (if ((-1 : Int) == 0) = true then _ else _) _ _ s
  rw [if_neg (by decide)]
  refine wpAny_bind (HT.slicePart_ pl (wpAny_bind (HT.slicePart_ pu (wpAny_bind (wpAny_pure ?_)))))
  show wpAny _ _ (match Builtin.Slice.sliceAdjust none none (-1) (n : Int) with | (lo, hi) => pure (lo, (-1 : Int), Builtin.Slice.slicePlaces lo hi (-1))) _ _ s
  rw [adjust_rev n]
  show wpAny _ _ (pure ((n : Int) - 1, (-1 : Int), Builtin.Slice.slicePlaces ((n : Int) - 1) (-1) (-1))) _ _ s
  rw [places_rev]
  exact wpAny_pure h
theorem fmap_map {α β : Type} {f : α → Option β} {h : α → β} : ∀ {l : List α}, (∀ x ∈ l, f x = some (h x)) → l.filterMap f = l.map h
  | [], _ => rfl
  | x :: l, q => by
    rw [List.filterMap_cons, q x List.mem_cons_self, List.map_cons, fmap_map fun y hy => q y (List.mem_cons_of_mem _ hy)]
theorem pick_rev (xs : Array Value) : ((List.range xs.size).filterMap fun (m : Nat) => xs[(((xs.size : Nat) : Int) - 1 + (m : Int) * -1).toNat]?).toArray = xs.toList.reverse.toArray := by
  have e : ((List.range xs.size).filterMap fun (m : Nat) => xs[(((xs.size : Nat) : Int) - 1 + (m : Int) * -1).toNat]?) = (List.range xs.size).map fun m => xs.toList.reverse.getD m .none := by
    refine fmap_map fun m hm => ?_
    have hm := List.mem_range.mp hm
    have e1 : (((xs.size : Nat) : Int) - 1 + (m : Int) * -1).toNat = xs.size - 1 - m := by omega
    rw [e1]
    have h2 : xs.size - 1 - m < xs.size := by omega
    rw [Array.getElem?_eq_getElem h2, List.getD_eq_getElem?_getD, List.getElem?_reverse (by simpa using hm)]
    simp only [Array.length_toList]
    rw [List.getElem?_eq_getElem (by simpa using h2)]
    simp
  rw [e]
  congr 1
  apply List.ext_getElem?
  intro k
  rw [List.getElem?_map]
  by_cases hk : k < xs.size
  · rw [List.getElem?_range hk]
    simp only [Option.map_some, List.getD_eq_getElem?_getD]
    rw [List.getElem?_eq_getElem (by simpa using hk)]
    rfl
  · rw [List.getElem?_eq_none (by simpa using hk), List.getElem?_eq_none (by simpa using hk)]
    rfl
theorem getItem_tuple_rev {t sl : Addr} {items : Array Value} {vl vu vs : Value} {Q : Value → Shared → Prop} (ht : IsTup s.heap t items) (hs : s.heap.IsSliceOf sl vl vu vs) (pl : IsPart vl none) (pu : IsPart vu none) (ps : IsPart vs (some (-1)))
    (h : Q (.ref s.heap.objs.size) { s with heap := s.heap.push { cls := .type "tuple", data := .seq items.toList.reverse.toArray } })
    (hsz : items.size ≤ sizeLine) : wpAny (model prog w) A (getItem (.ref t) (.ref sl)) Q E s := by
  have htake : sizeOk (.seq items.toList.reverse.toArray) := by
    show items.toList.reverse.toArray.size ≤ sizeLine
    rw [List.size_toArray, List.length_reverse, Array.length_toList]
    exact hsz
  obtain ⟨os, hos, hcs, hds⟩ := id hs
  have hTs : s.TypeIs (.ref sl) "slice" := ⟨os, hos, hcs⟩
  unfold getItem
  try with_reducible refine wpAny_holding ?_
  first | refine wpAny_bind (wpAny_pure ?_) | skip
  refine wpAny_bind (wpAny_sequenceKey ht.typeIs (by decide) ?_)
  refine wpAny_bind (wpAny_callSpecial?_slot (name := Str.ofString "__getitem__") ht.typeIs PyProof.Rows.slot_tuple_getitem
    (wpAny_call_entry PyProof.Rows.slot_tuple_getitem ht.typeIs entry_tuple_getitem ?_ (args_tuple_getitem _ _)))
  show wpAny _ _ (Builtin.Tuple.tupleItemsOf (.ref t) >>= _) _ _ s
  refine wpAny_bind (tupleItemsOf_ ht ?_)
  refine wpAny_bind (wpAny_typeOf hTs ?_)
  rw [if_pos (by decide)]
  refine wpAny_bind (sliceApplied_rev hs pl pu ps ?_)
  have hno : ¬ ((((items.size : Int) - 1 == 0) && (-1 : Int) == 1 && (items.size == items.size)) = true) := by
    intro q
    rw [Bool.and_eq_true, Bool.and_eq_true] at q
    exact absurd (eq_of_beq q.1.2) (by decide)
  show wpAny _ _ (if (((items.size : Int) - 1 == 0) && (-1 : Int) == 1 && (items.size == items.size)) = true then _ else _) _ _ s
  rw [if_neg hno, pick_rev]
  first
    | exact wpAny_bind (m := Builtin.Tuple.tupleExact _) (wpAny_newObj_type (wpAny_pure ⟨_, rfl, wpAny_pure h⟩) htake)
    | exact wpAny_bind (m := Builtin.Tuple.tupleExact _) (wpAny_newObj_type (wpAny_bind (wpAny_pure (wpAny_pure ⟨_, rfl, wpAny_pure h⟩))) htake)
    | exact wpAny_bind (wpAny_bind (m := Builtin.Tuple.tupleExact _) (wpAny_newObj_type (wpAny_pure (wpAny_pure ⟨_, rfl, wpAny_pure h⟩)) htake))
    | exact wpAny_bind (wpAny_bind (m := Builtin.Tuple.tupleExact _) (wpAny_newObj_type (wpAny_pure ⟨_, rfl, wpAny_pure h⟩) htake))
end
section
variable {X : Cx}
/-- e[::-1], e a list or a tuple -/
def tRevA (K : PySem.W.Frag) (te : TE) : TE := fun σ H Q => te σ H fun x H1 => ∃ a xs, x = .ref a ∧ ((SqL K H1 a xs ∧ ∀ p, H1 p = none → Q (.ref p) (upd H1 p (.lst xs.reverse))) ∨ (SqT K H1 a xs ∧ ∀ p, H1 p = none → Q (.ref p) (upd H1 p (.tup xs.reverse))))
theorem pe_revA {e : Expr} {te : TE} {k : Nat} {p1 p2 p3 pos : Pos} (he : PE X e te) : PE X (.Subscript e (.Slice none none (some (.UnaryOp .USub (.Constant (.int 1) k p1) p2)) p3) pos) (tRevA X.K te) := by
  refine ⟨fun pins s σ H Q I h => ?_⟩
  refine Subscript_ (thn (he.run pins s σ H _ I h) fun v s1 ⟨x, H1, I1, r1, q1⟩ => ?_)
  obtain ⟨a, xs, ex, q1⟩ := q1
  subst ex
  cases r1
  have hst : PO X (some (.UnaryOp .USub (.Constant (.int 1) k p1) p2)) (tPart (tUn (rU fun i => .int (-i)) (tC (.int 1)))) := po_some (pe_un un_neg pe_int)
  refine wpAny_Slice (thn (po_none.run pins s1 σ H1 (fun o H2 => o = none ∧ H2 = H1) I1 ⟨rfl, rfl⟩) fun vl s2 ⟨l, H2, I2, pl, el, e2⟩ => ?_)
  subst el e2
  refine thn (po_none.run pins s2 σ H2 (fun o H3 => o = none ∧ H3 = H2) I2 ⟨rfl, rfl⟩) fun vu s3 ⟨u, H3, I3, pu, eu, e3⟩ => ?_
  subst eu e3
  refine thn (hst.run pins s3 σ H3 (fun o H4 => o = some (-1) ∧ H4 = H3) I3 ⟨1, rfl, -1, rfl, rfl, rfl⟩) fun vs s4 ⟨o, H4, I4, ps, eo, e4⟩ => ?_
  subst eo e4
  have I5 : Inv X pins σ H4 { s4 with heap := s4.heap.push { cls := .type "slice", data := .fields #[vl, vu, vs] } } := I4.kept (t' := s4.toks) fun b ob q => Heap.get?_push_of_some _ q
  show wpAny (model X.prog X.w) X.A (subscriptTail e (.Slice none none (some (.UnaryOp .USub (.Constant (.int 1) k p1) p2)) p3) (.ref a) (.ref s4.heap.objs.size)) (EP X pins σ Q) X.xe { s4 with heap := s4.heap.push { cls := .type "slice", data := .fields #[vl, vu, vs] } }
  rcases q1 with ⟨hx, q⟩ | ⟨hx, q⟩
  · obtain ⟨its, r, ht, hz⟩ := I5.list hx
    have hlen := r.length
    refine tail_any (ops := [.ref a, .ref s4.heap.objs.size]) ht.isList.typeIs (PySem.slot_list_getitem.lookup) ?_ (by with_unfolding_all rfl)
    refine wpAny_getItem_list_slice ht.isList (Heap.IsSliceOf.new _ vl vu vs) pl pu ps (by decide) ?_ (by rw [List.size_toArray]; omega)
    rw [PySem.W.krv_pick]
    refine ⟨.ref _, _, I5.laid (t' := s4.toks) (o := .lst xs.reverse) (fun b ob q => Heap.get?_push_of_some _ q) (Nat.le_refl _) ?_, rfl, q _ (I5.hok.fresh (Nat.le_refl _))⟩
    exact ⟨by rw [List.length_reverse]; exact hz, _, 0, r.reverse, Heap.get?_push_size _ rfl⟩
  · obtain ⟨its, r, ht, hz⟩ := I5.tuple hx
    have hlen := r.length
    refine tail_any (ops := [.ref a, .ref s4.heap.objs.size]) ht.typeIs (PyProof.Rows.slot_tuple_getitem.lookup) ?_ (by with_unfolding_all rfl)
    refine getItem_tuple_rev ht (Heap.IsSliceOf.new _ vl vu vs) pl pu ps ?_ (by rw [List.size_toArray]; omega)
    refine ⟨.ref _, _, I5.laid (t' := s4.toks) (o := .tup xs.reverse) (fun b ob q => Heap.get?_push_of_some _ q) (Nat.le_refl _) ?_, rfl, q _ (I5.hok.fresh (Nat.le_refl _))⟩
    exact ⟨by rw [List.length_reverse]; exact hz, _, r.reverse, IsTup.new _ _⟩
end
end PV
end
section
set_option maxHeartbeats 4000000
/-! PvS2: operators and built-ins by plain data. -/
namespace PV
open PySem PySem.Spec PyProof.Rows L2
variable {g : G}
theorem limLine : lim = sizeLine := by rw [sizeLine_eq]; rfl
def OpS (g : G) (r : R2) (f : D → D → T D) : Prop := ∀ (H0 H1 Z H : Hp) (x y : D) (vx vy : V) (Q : VK) (E : Nat → Nat → Prop), Pre g Z H → RepR g H0 Z H vx x → RepR g H1 Z H vy y → (f x y).All (Post g Z H Q) E (g.bud H) → r vx vy H Q
/-- a comparison -/
def CmpS (g : G) (r : R2) (f : D → D → T Bool) : Prop := ∀ (H0 H1 Z H : Hp) (x y : D) (vx vy : V) (Q : VK) (E : Nat → Nat → Prop), Pre g Z H → RepR g H0 Z H vx x → RepR g H1 Z H vy y → (f x y).All (fun m k => m = g.bud H → Q (.bl k) H) E (g.bud H) → r vx vy H Q
theorem lenIf_ok {n : Nat} {d : D} {P : Nat → D → Prop} {E : Nat → Nat → Prop} {m : Nat} (h : (lenIf n d).All P E m) : n ≤ sizeLine ∧ P m d := by
  unfold lenIf at h
  split at h
  · rename_i q
    exact ⟨by rw [← limLine]; exact q, h⟩
  · exact h.elim
theorem cat_case {H0 H1 Z H : Hp} {x y : D} {vx vy : V} {Q : VK} {E : Nat → Nat → Prop} {xs ys : List D} (p : Pre g Z H) (rx : RepR g H0 Z H vx x) (ry : RepR g H1 Z H vy y) (ex : seqL x = some xs) (ey : seqL y = some ys)
    (h : (lenIf (xs.length + ys.length) (.new (xs ++ ys))).All (Post g Z H Q) E (g.bud H)) : rCat vx vy H Q := by
  obtain ⟨l, h⟩ := lenIf_ok h
  obtain ⟨a, vs, rfl, h1, h2, h3⟩ := rx.lst p ex
  obtain ⟨b, ws, rfl, k1, k2, k3⟩ := ry.lst p ey
  have hl : vs.length + ws.length ≤ sizeLine := by rw [h3.length, k3.length]; exact l
  exact ⟨a, b, vs, ws, rfl, rfl, h1, k1, hl, fun q hq => h.newL p (h3.append k3) (by rw [List.length_append]; exact hl) hq⟩
theorem ops_add : OpS g (fun x y H Q => rI0 (fun i j => .int (i + j)) x y H Q ∨ rCatA g.K x y H Q ∨ rCat x y H Q) addT := by
  intro H0 H1 Z H x y vx vy Q E p rx ry h
  unfold addT at h
  split at h
  · cases rx; cases ry
    exact .inl ⟨_, _, rfl, rfl, h.now p (.int _)⟩
  · rename_i xs ys
    obtain ⟨l, h⟩ := lenIf_ok h
    cases rx with
    | tup a1 a2 a3 =>
      cases ry with
      | tup b1 b2 b3 =>
        rename_i a vs b ws
        have hl : vs.length + ws.length ≤ sizeLine := by rw [a3.length, b3.length]; exact l
        refine .inr (.inl ⟨a, b, vs, ws, rfl, rfl, .of (p.zh _ _ a1), .of (p.zh _ _ b1), hl, fun e => ?_, fun _ e => ?_, fun _ _ q hq => ?_⟩)
        · subst e
          cases a3
          exact h.now p (.tup b1 b2 b3)
        · subst e
          cases b3
          rw [List.append_nil] at h
          exact h.now p (.tup a1 a2 a3)
        · exact h.newT p (a3.append b3) (by rw [List.length_append]; exact hl) hq
  · exact .inr (.inr (cat_case p rx ry rfl rfl h))
  · exact .inr (.inr (cat_case p rx ry rfl rfl h))
  · exact .inr (.inr (cat_case p rx ry rfl rfl h))
  · exact .inr (.inr (cat_case p rx ry rfl rfl h))
  · exact .inr (.inr (cat_case p rx ry rfl rfl h))
  · exact .inr (.inr (cat_case p rx ry rfl rfl h))
  · exact h.elim
theorem ops_sub : OpS g (rI0 fun i j => .int (i - j)) subT := by
  intro H0 H1 Z H x y vx vy Q E p rx ry h
  unfold subT at h
  split at h
  · cases rx; cases ry
    exact ⟨_, _, rfl, rfl, h.now p (.int _)⟩
  · exact h.elim
theorem mulOk_ok {i j : Int} (h : mulOk i j = true) : CMul i j := by
  simp [mulOk] at h
  rcases h with h | h
  · exact .inl (by simpa using h)
  · exact .inr (by simpa using h)
theorem rep_len {vs : List V} {n : Nat} (h1 : n ≤ 1000) (h2 : vs.length ≤ 1000) : (List.replicate n vs).flatten.length ≤ sizeLine := by
  have : (List.replicate n vs).flatten.length = n * vs.length := by simp [List.length_flatten]
  rw [this, sizeLine_eq]
  exact Nat.le_trans (Nat.mul_le_mul h1 h2) (by decide)
theorem rep_case {H0 H1 Z H : Hp} {x : D} {k : Int} {vx vy : V} {Q : VK} {E : Nat → Nat → Prop} {xs : List D} (p : Pre g Z H) (rx : RepR g H0 Z H vx x) (ry : RepR g H1 Z H vy (.int k)) (ex : seqL x = some xs)
    (h : (if xs.length ≤ 1000 ∧ 0 ≤ k ∧ k ≤ 1000 then T.ret (D.new (List.replicate k.toNat xs).flatten) else .bad).All (Post g Z H Q) E (g.bud H)) : rRep vx vy H Q := by
  split at h
  · rename_i c
    obtain ⟨c1, c2, c3⟩ := c
    obtain ⟨a, vs, rfl, h1, h2, h3⟩ := rx.lst p ex
    cases ry
    have hl := h3.length
    refine ⟨a, k, vs, rfl, rfl, h1, by omega, by omega, ?_, fun q hq => h.newL p (h3.rep _) (rep_len (by omega) (by omega)) hq⟩
    rw [sizeLine_eq]
    exact Nat.le_trans (Nat.mul_le_mul (show vs.length ≤ 1000 by omega) (show k.toNat ≤ 1000 by omega)) (by decide)
  · exact h.elim
theorem ops_mul : OpS g (fun x y H Q => rI CMul (fun i j => .int (i * j)) x y H Q ∨ rRepT g.K x y H Q ∨ rRep x y H Q) mulT := by
  intro H0 H1 Z H x y vx vy Q E p rx ry h
  unfold mulT at h
  split at h
  · split at h
    · rename_i c
      cases rx; cases ry
      exact .inl ⟨_, _, rfl, rfl, mulOk_ok c, h.now p (.int _)⟩
    · exact h.elim
  · split at h
    · rename_i c
      obtain ⟨c1, c2, c3, c4⟩ := c
      cases ry
      cases rx with
      | tup a1 a2 a3 =>
        have hl := a3.length
        refine .inr (.inl ⟨_, _, _, rfl, rfl, .of (p.zh _ _ a1), fun e => ?_, c3, c4, by omega, fun q hq => ?_⟩)
        · subst e
          cases a3
          exact c1 rfl
        · refine h.newT p (a3.rep _) ?_ hq
          exact rep_len (by omega) (by omega)
    · exact h.elim
  · exact .inr (.inr (rep_case p rx ry rfl h))
  · exact .inr (.inr (rep_case p rx ry rfl h))
  · exact .inr (.inr (rep_case p rx ry rfl h))
  · exact h.elim
theorem ops_fdiv : OpS g (rI CDivW fun i j => .int (i / j)) fdivT := by
  intro H0 H1 Z H x y vx vy Q E p rx ry h
  unfold fdivT at h
  split at h
  · split at h
    · rename_i c
      cases rx; cases ry
      exact ⟨_, _, rfl, rfl, wide_div (b := 200) c.1 (by have := c.2; omega) (by decide) (by decide), h.now p (.int _)⟩
    · exact h.elim
  · exact h.elim
theorem ops_mod : OpS g (rI (fun _ j => 0 < j) fun i j => .int (i % j)) modT := by
  intro H0 H1 Z H x y vx vy Q E p rx ry h
  unfold modT at h
  split at h
  · split at h
    · rename_i c
      cases rx; cases ry
      exact ⟨_, _, rfl, rfl, c, h.now p (.int _)⟩
    · exact h.elim
  · exact h.elim
theorem ops_pow : OpS g (rI CPow fun i j => .int (i ^ j.toNat)) powT := by
  intro H0 H1 Z H x y vx vy Q E p rx ry h
  unfold powT at h
  split at h
  · split at h
    · rename_i c
      cases rx; cases ry
      exact ⟨_, _, rfl, rfl, ⟨c.1, by have := c.2.1; omega, c.2.2⟩, h.now p (.int _)⟩
    · exact h.elim
  · exact h.elim

theorem cmp_lt : CmpS g (fun x y H Q => rI0 (fun i j => .bl (decide (i < j))) x y H Q ∨ rLtT g.K x y H Q) ltT := by
  intro H0 H1 Z H x y vx vy Q E p rx ry h
  unfold ltT at h
  split at h
  · cases rx; cases ry
    exact .inl ⟨_, _, rfl, rfl, h rfl⟩
  · split at h
    · rename_i ns ms e1 e2
      cases rx with
      | tup a1 a2 a3 =>
        cases ry with
        | tup b1 b2 b3 =>
          have z1 := a3.intsI e1
          have z2 := b3.intsI e2
          subst z1 z2
          exact .inr ⟨_, _, _, _, rfl, rfl, .of (p.zh _ _ a1), .of (p.zh _ _ b1), h rfl⟩
    · exact h.elim
  · exact h.elim
theorem cmp_le : CmpS g (rI0 fun i j => .bl (decide (i ≤ j))) leT := by
  intro H0 H1 Z H x y vx vy Q E p rx ry h
  unfold leT at h
  split at h
  · cases rx; cases ry
    exact ⟨_, _, rfl, rfl, h rfl⟩
  · exact h.elim
theorem cmp_gt : CmpS g (rI0 fun i j => .bl (decide (j < i))) gtT := by
  intro H0 H1 Z H x y vx vy Q E p rx ry h
  unfold gtT at h
  split at h
  · cases rx; cases ry
    exact ⟨_, _, rfl, rfl, h rfl⟩
  · exact h.elim
theorem cmp_ge : CmpS g (rI0 fun i j => .bl (decide (j ≤ i))) geT := by
  intro H0 H1 Z H x y vx vy Q E p rx ry h
  unfold geT at h
  split at h
  · cases rx; cases ry
    exact ⟨_, _, rfl, rfl, h rfl⟩
  · exact h.elim
theorem deq_ok {a b : D} {P : Nat → Bool → Prop} {E : Nat → Nat → Prop} {m : Nat} (h : (deq a b).All P E m) : okPy a = true ∧ okPy b = true ∧ P m (PyData.eqv a.toPy b.toPy) := by
  unfold deq at h
  split at h
  · rename_i c
    rw [Bool.and_eq_true] at c
    exact ⟨c.1, c.2, h⟩
  · exact h.elim
theorem cmp_eq : CmpS g (rEqD g.K) deq := by
  intro H0 H1 Z H x y vx vy Q E p rx ry h
  obtain ⟨c1, c2, h⟩ := deq_ok h
  exact ⟨_, _, rx.dp p c1, ry.dp p c2, c1, c2, h rfl⟩
theorem cmp_ne : CmpS g (rNeD g.K) neT := by
  intro H0 H1 Z H x y vx vy Q E p rx ry h
  unfold neT at h
  rw [all_bind] at h
  obtain ⟨c1, c2, h⟩ := deq_ok h
  exact ⟨_, _, rx.dp p c1, ry.dp p c2, c1, c2, h rfl⟩
theorem isNon_ok {H0 Z H : Hp} {a : D} {v : V} {P : Nat → Bool → Prop} {E : Nat → Nat → Prop} {m : Nat} (r : RepR g H0 Z H v a) (h : (isNon a).All P E m) : P m (decide (v = .non)) := by
  cases a <;> first
    | exact h.elim
    | (cases r <;> exact h)
theorem isB_ok {H1 Z H : Hp} {x : D} {k : Bool} {vx : V} {P : Nat → Bool → Prop} {E : Nat → Nat → Prop} {m : Nat} (rx : RepR g H1 Z H vx x) (h : (isB x k).All P E m) : ∃ j, vx = .bl j ∧ P m (decide (j = k)) := by
  unfold isB at h
  split at h
  · cases rx
    exact ⟨_, rfl, h⟩
  · exact h.elim
theorem cmp_is : CmpS g (fun x y H Q => (y = .non ∧ Q (.bl (decide (x = .non))) H) ∨ rIsB x y H Q) isT := by
  intro H0 H1 Z H x y vx vy Q E p rx ry h
  unfold isT at h
  split at h
  · cases ry
    exact .inl ⟨rfl, isNon_ok (P := fun m k => m = g.bud H → Q (.bl k) H) rx h rfl⟩
  · cases ry
    obtain ⟨j, e, q⟩ := isB_ok rx h
    exact .inr ⟨_, _, e, rfl, q rfl⟩
  · exact h.elim
theorem cmp_isn : CmpS g (fun x y H Q => (y = .non ∧ Q (.bl (!decide (x = .non))) H) ∨ rNotB x y H Q) isnT := by
  intro H0 H1 Z H x y vx vy Q E p rx ry h
  unfold isnT at h
  rw [all_bind] at h
  unfold isT at h
  split at h
  · cases ry
    exact .inl ⟨rfl, isNon_ok (P := fun m k => m = g.bud H → Q (.bl (!k)) H) rx h rfl⟩
  · cases ry
    obtain ⟨j, e, q⟩ := isB_ok rx h
    exact .inr ⟨_, _, e, rfl, q rfl⟩
  · exact h.elim
theorem flat_V {Z : Hp} {v : V} {d : D} (r : Rep g Z v d) (h : flat d = true) : flatV v = true := by
  cases r <;> first | rfl | cases h
theorem flat_Vs {Z : Hp} : ∀ {vs : List V} {ds : List D}, Reps g Z vs ds → ds.all flat = true → vs.all flatV = true
  | _, _, .nil, _ => rfl
  | _, _, .cons r t, h => by
    rw [List.all_cons, Bool.and_eq_true] at h
    rw [List.all_cons, flat_V r h.1, flat_Vs t h.2]
    rfl
theorem eqV_eqv {Z Z' : Hp} {v w : V} {d e : D} (r : Rep g Z v d) (s : Rep g Z' w e) (h : flat d = true) (h' : flat e = true) : eqV v w = PyData.eqv d.toPy e.toPy := by
  cases r <;> first
    | exact absurd h Bool.false_ne_true
    | (cases s <;> first | exact absurd h' Bool.false_ne_true | rfl | simp [eqV, D.toPy, PyData.eqv])
theorem inV_eqv {Z Z' : Hp} {w : V} {e : D} (s : Rep g Z' w e) (h' : flat e = true) : ∀ {vs : List V} {ds : List D}, Reps g Z vs ds → ds.all flat = true → inV w vs = ds.any fun y => PyData.eqv y.toPy e.toPy
  | _, _, .nil, _ => rfl
  | v :: vs, d :: ds, .cons r t, h => by
    rw [List.all_cons, Bool.and_eq_true] at h
    have q := inV_eqv s h' t h.2
    unfold inV at q ⊢
    rw [List.any_cons, List.any_cons, q, eqV_eqv r s h.1 h']
theorem flat_rep {H0 Z H : Hp} {v : V} {d : D} (r : RepR g H0 Z H v d) (h : flat d = true) : Rep g Z v d := by
  cases d <;> first | exact r | cases h
theorem inn_ok {H0 H1 Z H : Hp} {x ys : D} {vx vy : V} {P : Nat → Bool → Prop} {E : Nat → Nat → Prop} {m : Nat} (p : Pre g Z H) (rx : RepR g H0 Z H vx x) (ry : RepR g H1 Z H vy ys) (h : (innT x ys).All P E m) :
    ∃ a vs, vy = .ref a ∧ (SqL g.K H a vs ∨ SqT g.K H a vs) ∧ flatV vx = true ∧ vs.all flatV = true ∧ P m (inV vx vs) := by
  unfold innT at h
  split at h
  · rename_i ds e
    split at h
    · rename_i c
      obtain ⟨a, vs, rfl, h1, h2, h3⟩ := ry.seq p e
      have fx := flat_rep rx c.1
      exact ⟨a, vs, rfl, h1, flat_V fx c.1, flat_Vs h3 c.2, by rw [inV_eqv fx c.1 h3 c.2]; exact h⟩
    · exact h.elim
  · exact h.elim
theorem cmp_inn : CmpS g (rIn g.K false) innT := by
  intro H0 H1 Z H x y vx vy Q E p rx ry h
  obtain ⟨a, vs, rfl, h1, h2, h3, h4⟩ := inn_ok p rx ry h
  exact ⟨a, vs, rfl, h1, h2, h3, h4 rfl⟩
theorem cmp_nin : CmpS g (rIn g.K true) ninT := by
  intro H0 H1 Z H x y vx vy Q E p rx ry h
  unfold ninT at h
  rw [all_bind] at h
  obtain ⟨a, vs, rfl, h1, h2, h3, h4⟩ := inn_ok p rx ry h
  exact ⟨a, vs, rfl, h1, h2, h3, h4 rfl⟩

/-! ### items, slices -/
theorem Reps.atI {Z : Hp} {vs : List V} {ds : List D} {i : Int} {d : D} (r : Reps g Z vs ds) (h : atD ds i = some d) : ∃ v, L2.atI vs i = some v ∧ Rep g Z v d := by
  unfold atD L2.atI at h
  unfold L2.atI
  rw [r.length]
  cases e : L2.ixN ds.length i with
  | none => rw [e] at h; cases h
  | some j =>
    rw [e] at h
    exact r.get h
theorem ops_idx : OpS g (rIx g.K) idxT := by
  intro H0 H1 Z H x y vx vy Q E p rx ry h
  have key : ∀ {ds : List D} {i : Int}, items x = some ds → RepR g H1 Z H vy (.int i) → (ofO (atD ds i)).All (Post g Z H Q) E (g.bud H) → rIx g.K vx vy H Q := fun {ds i} e ri h => by
    obtain ⟨a, vs, rfl, h1, h2, h3⟩ := rx.seq p e
    cases ri
    cases q : atD ds i with
    | none => rw [q] at h; exact h.elim
    | some d =>
      rw [q] at h
      obtain ⟨v, k1, k2⟩ := h3.atI q
      rcases h1 with h1 | h1
      · exact .inl ⟨a, vs, i, v, rfl, rfl, h1, k1, h.now p k2⟩
      · exact .inr (.inl ⟨a, vs, i, v, rfl, rfl, h1, k1, h.now p k2⟩)
  unfold idxT at h
  split at h
  · exact key rfl ry h
  · exact key rfl ry h
  · exact key rfl ry h
  · exact key rfl ry h
  · exact h.elim
theorem Reps.cut {Z : Hp} {vs : List V} {ds : List D} (lo hi : Option Int) (r : Reps g Z vs ds) : Reps g Z (cutV vs lo hi) (cutD ds lo hi) := by
  unfold cutV cutD
  rw [r.length]
  exact (r.drop _).take _
theorem cut_whole {α : Type} {xs : List α} {i n : Nat} (h1 : i = 0) (h2 : n = xs.length) : (xs.drop i).take (n - i) = xs := by
  subst h1 h2
  rw [List.drop_zero, Nat.sub_zero, List.take_length]
theorem slc_ok {H0 Z H : Hp} {x : D} {vx : V} {lo hi : Option Int} {Q : VK} {E : Nat → Nat → Prop} (p : Pre g Z H) (rx : RepR g H0 Z H vx x) (h : (slcT x lo hi).All (Post g Z H Q) E (g.bud H)) : rSlL g.K vx lo hi H Q ∨ rSlA g.K vx lo hi H Q := by
  have key : ∀ {ds : List D}, seqL x = some ds → Post g Z H Q (g.bud H) (.new (cutD ds lo hi)) → rSlL g.K vx lo hi H Q ∨ rSlA g.K vx lo hi H Q := fun {ds} e h => by
    obtain ⟨a, vs, rfl, h1, h2, h3⟩ := rx.lst p e
    exact .inl ⟨a, vs, rfl, .of h1, fun q hq => h.newL p (h3.cut lo hi) (Nat.le_trans (cutV_length _ _ _) h2) hq⟩
  unfold slcT at h
  split at h
  · cases rx with
    | tup a1 a2 a3 =>
      refine .inr ⟨_, _, rfl, .of (p.zh _ _ a1), fun c => ?_, fun _ q hq => h.newT p (a3.cut lo hi) (Nat.le_trans (cutV_length _ _ _) a2) hq⟩
      rename_i xs a vs
      have e : cutD xs lo hi = xs := cut_whole (by rw [← a3.length]; exact c.1) (by rw [← a3.length]; exact c.2)
      rw [e] at h
      exact h.now p (.tup a1 a2 a3)
  · exact key rfl h
  · exact key rfl h
  · exact key rfl h
  · exact h.elim

/-! ### built-in calls -/
inductive RepRs (g : G) (H Z' H' : Hp) : List V → List D → Prop
  | nil : RepRs g H Z' H' [] []
  | cons {v : V} {vs : List V} {d : D} {ds : List D} : RepR g H Z' H' v d → RepRs g H Z' H' vs ds → RepRs g H Z' H' (v :: vs) (d :: ds)
theorem RepRs.step {H Z1 H1 Z2 H2 : Hp} (s : Step g Z1 H1 Z2 H2) : ∀ {vs : List V} {ds : List D}, RepRs g H Z1 H1 vs ds → RepRs g H Z2 H2 vs ds
  | _, _, .nil => .nil
  | _, _, .cons r t => .cons (r.step s) (RepRs.step s t)
theorem RepRs.back {H Z H1 Z1 Z2 H2 : Hp} (s : Step g Z H Z1 H1) : ∀ {vs : List V} {ds : List D}, RepRs g H1 Z2 H2 vs ds → RepRs g H Z2 H2 vs ds
  | _, _, .nil => .nil
  | _, _, .cons r t => .cons (r.back s) (RepRs.back s t)
def BltS (g : G) (r : List V → Hp → VK → Prop) (f : List D → T D) : Prop := ∀ (H0 Z H : Hp) (xs : List D) (vs : List V) (Q : VK) (E : Nat → Nat → Prop), Pre g Z H → RepRs g H0 Z H vs xs → (f xs).All (Post g Z H Q) E (g.bud H) → r vs H Q
theorem RepRs.one {H0 Z H : Hp} {vs : List V} {d : D} (r : RepRs g H0 Z H vs [d]) : ∃ v, vs = [v] ∧ RepR g H0 Z H v d := by
  cases r with
  | cons r t => cases t; exact ⟨_, rfl, r⟩
theorem RepRs.two {H0 Z H : Hp} {vs : List V} {d e : D} (r : RepRs g H0 Z H vs [d, e]) : ∃ v w, vs = [v, w] ∧ RepR g H0 Z H v d ∧ RepR g H0 Z H w e := by
  cases r with
  | cons r t =>
    obtain ⟨w, rfl, q⟩ := t.one
    exact ⟨_, _, rfl, r, q⟩
theorem seqI_ok {H0 Z H : Hp} {v : V} {d : D} {ns : List Int} (p : Pre g Z H) (r : RepR g H0 Z H v d) (h : seqI d = some ns) : ∃ a, v = .ref a ∧ SqL g.K H a (ns.map V.int) ∧ ns.length ≤ sizeLine := by
  unfold seqI at h
  obtain ⟨ds, h1, h2⟩ := Option.bind_eq_some_iff.mp h
  obtain ⟨a, vs, rfl, k1, k2, k3⟩ := r.lst p h1
  have e := k3.intsI h2
  subst e
  exact ⟨a, rfl, .of k1, by rw [List.length_map] at k2; exact k2⟩
theorem seqB_ok {H0 Z H : Hp} {v : V} {d : D} {ns : List Bool} (p : Pre g Z H) (r : RepR g H0 Z H v d) (h : seqB d = some ns) : ∃ a, v = .ref a ∧ SqL g.K H a (ns.map V.bl) := by
  unfold seqB at h
  obtain ⟨ds, h1, h2⟩ := Option.bind_eq_some_iff.mp h
  obtain ⟨a, vs, rfl, k1, k2, k3⟩ := r.lst p h1
  have e := k3.blsI h2
  subst e
  exact ⟨a, rfl, .of k1⟩
theorem blt_abs : BltS g (fun xs H Q => ∃ i, xs = [.int i] ∧ Q (.int (if i < 0 then -i else i)) H) absB := by
  intro H0 Z H xs vs Q E p r h
  unfold absB at h
  split at h
  · obtain ⟨v, rfl, rv⟩ := r.one
    cases rv
    exact ⟨_, rfl, h.now p (.int _)⟩
  · exact h.elim
theorem foldl_max_ge (xs : List Int) : ∀ x : Int, x ≤ xs.foldl max x ∧ (∀ y ∈ xs, y ≤ xs.foldl max x) ∧ (xs.foldl max x = x ∨ xs.foldl max x ∈ xs) := by
  induction xs with
  | nil => intro x; simp
  | cons y ys ih =>
    intro x
    obtain ⟨h1, h2, h3⟩ := ih (max x y)
    rw [List.foldl_cons]
    refine ⟨by omega, fun z hz => ?_, ?_⟩
    · rcases List.mem_cons.mp hz with e | e
      · subst e; omega
      · exact h2 z e
    · rcases h3 with e | e
      · rw [e]
        by_cases q : x ≤ y
        · right; rw [show max x y = y by omega]; exact List.mem_cons_self
        · left; omega
      · right; exact List.mem_cons_of_mem _ e
theorem foldl_min_le (xs : List Int) : ∀ x : Int, xs.foldl min x ≤ x ∧ (∀ y ∈ xs, xs.foldl min x ≤ y) ∧ (xs.foldl min x = x ∨ xs.foldl min x ∈ xs) := by
  induction xs with
  | nil => intro x; simp
  | cons y ys ih =>
    intro x
    obtain ⟨h1, h2, h3⟩ := ih (min x y)
    rw [List.foldl_cons]
    refine ⟨by omega, fun z hz => ?_, ?_⟩
    · rcases List.mem_cons.mp hz with e | e
      · subst e; omega
      · exact h2 z e
    · rcases h3 with e | e
      · rw [e]
        by_cases q : x ≤ y
        · left; omega
        · right; rw [show min x y = y by omega]; exact List.mem_cons_self
      · right; exact List.mem_cons_of_mem _ e
theorem maxL_ok {ns : List Int} {m : Int} (h : maxL ns = some m) : 0 < ns.length ∧ ∀ k, k ∈ ns → (∀ y, y ∈ ns → y ≤ k) → k = m := by
  cases ns with
  | nil => cases h
  | cons x xs =>
    obtain ⟨h1, h2, h3⟩ := foldl_max_ge xs x
    cases h
    refine ⟨by simp, fun k hk hy => ?_⟩
    have a : k ≤ xs.foldl max x := by
      rcases List.mem_cons.mp hk with e | e
      · subst e; exact h1
      · exact h2 k e
    have b : xs.foldl max x ≤ k := by
      rcases h3 with e | e
      · rw [e]; exact hy x List.mem_cons_self
      · exact hy _ (List.mem_cons_of_mem _ e)
    omega
theorem minL_ok {ns : List Int} {m : Int} (h : minL ns = some m) : 0 < ns.length ∧ ∀ k, k ∈ ns → (∀ y, y ∈ ns → k ≤ y) → k = m := by
  cases ns with
  | nil => cases h
  | cons x xs =>
    obtain ⟨h1, h2, h3⟩ := foldl_min_le xs x
    cases h
    refine ⟨by simp, fun k hk hy => ?_⟩
    have a : xs.foldl min x ≤ k := by
      rcases List.mem_cons.mp hk with e | e
      · subst e; exact h1
      · exact h2 k e
    have b : k ≤ xs.foldl min x := by
      rcases h3 with e | e
      · rw [e]; exact hy x List.mem_cons_self
      · exact hy _ (List.mem_cons_of_mem _ e)
    omega
section
open PyProof
variable {prog : Program} {w : World} {A : Around} {E : Value → Shared → Prop} {s : Shared} {l : Addr} {xs : Array (Int × Tok)} {its : List Value} {ns : List Int} {Q : Value → Shared → Prop}
theorem iter_intTuple (hl : s.heap.IsTuple l (intItems xs))
    (h : ∀ s₂ : Shared, s₂ = { s with heap := s.heap.push { cls := .type "tuple_iterator", data := .fields #[.ref l, .int 0 0] } } →
      (s₂.heap.IsTupleIter s.heap.objs.size l 0 ∧ s₂.heap.IsTuple l (intItems xs)) → (∀ b ∈ [s.heap.objs.size, l], b < s₂.heap.objs.size) → l ≠ s.heap.objs.size → Q (.ref s.heap.objs.size) s₂) :
    wpAny (model prog w) A (pyIter (.ref l)) Q E s := by
  have hlt : l < s.heap.objs.size := by obtain ⟨_, e, _⟩ := hl; exact Heap.lt_size e
  refine wpAny_pyIter_tuple hl (h _ rfl ⟨⟨_, Heap.get?_push_size _ rfl, rfl, rfl⟩, hl.push _⟩ (fun b hb => ?_) (Nat.ne_of_lt hlt))
  show b < (s.heap.push _).objs.size
  rw [Heap.size_push]
  rcases List.mem_cons.mp hb with rfl | hb
  · exact Nat.lt_succ_self _
  · rcases List.mem_cons.mp hb with rfl | hb
    · exact Nat.lt_succ_of_lt hlt
    · cases hb
theorem old_keptT {h' : Heap} (hk : ∀ b o, b ∉ [s.heap.objs.size] → (s.heap.push { cls := .type "tuple_iterator", data := .fields #[.ref l, .int 0 0] }).get? b = some o → h'.get? b = some o) :
    ∀ b o, s.heap.get? b = some o → h'.get? b = some o := fun b o e => by
  refine hk b o (fun hm => ?_) (Heap.get?_push_of_some _ e)
  rcases List.mem_cons.mp hm with e1 | hm
  · exact absurd (e1 ▸ Heap.lt_size e) (Nat.lt_irrefl _)
  · cases hm
theorem sum_rawT (hh : A.handled = none) (hl : s.heap.IsTuple l its.toArray) (hi : IntsAre its ns)
    (h : ∀ h' tk t', (∀ b o, s.heap.get? b = some o → h'.get? b = some o) → Q (.int ns.sum t') { s with heap := h', toks := tk }) : wpAny (model prog w) A (call (.builtin "sum") [.ref l]) Q E s := by
  obtain ⟨xs, e⟩ := hi.allInts.items
  have hn : numsOf (intItems xs).toList = ns := by rw [← e]; exact hi.numsOf
  rw [nums_intItems] at hn
  rw [e] at hl
  refine call_sum_walkG (iter_intTuple hl fun s₂ e st hfp hlI => ?_)
  subst e
  refine ⟨_, _, _, _, _, _, numAt xs, rfl, Walks.tuple (A := A.in1) hh _ l hlI (intItems xs), st, hfp, (fun _ _ => intItems_at), fun h' tk t' hk => ?_⟩
  have := h h' tk t' (old_keptT hk)
  have e2 : preSum (numAt xs) xs.size = ns.sum := by rw [preSum_eq, List.take_of_length_le (by simp), hn]
  rw [← e2] at this
  simpa [intItems] using this
theorem max_rawT (hh : A.handled = none) (hl : s.heap.IsTuple l its.toArray) (hi : IntsAre its ns) (hne : 0 < ns.length)
    (h : ∀ h' tk M t', (∀ b o, s.heap.get? b = some o → h'.get? b = some o) → M ∈ ns → (∀ a, a ∈ ns → a ≤ M) → Q (.int M t') { s with heap := h', toks := tk }) : wpAny (model prog w) A (call (.builtin "max") [.ref l]) Q E s := by
  obtain ⟨xs, e⟩ := hi.allInts.items
  have hn : numsOf (intItems xs).toList = ns := by rw [← e]; exact hi.numsOf
  rw [nums_intItems] at hn
  subst hn
  rw [e] at hl
  have hsz : 0 < xs.size := by simpa using hne
  refine call_max_walk (iter_intTuple hl fun s₂ e st hfp hlI => ?_)
  subst e
  refine ⟨_, _, _, _, _, _, _, rfl, Walks.tuple (A := A.in1) hh _ l hlI (intItems xs), st, hfp, by simpa [intItems] using hsz, CmpOf.ints_gt (numAt xs) (fun _ _ => intItems_at), fun v h' tk hP hk => ?_⟩
  have hv : (intItems xs)[argBest (fun i j => decide (numAt xs i > numAt xs j)) (xs.size - 1)]? = some v := by simpa [intItems] using hP
  obtain ⟨t, rfl⟩ := intItems_at hv
  obtain ⟨h1, h2⟩ := argBest_gt (numAt xs) (xs.size - 1)
  refine h h' tk _ t (old_keptT hk) ?_ fun a ha => ?_
  · rw [numAt_eq]; exact PySem.getD_mem (by rw [List.length_map, Array.length_toList]; omega)
  · obtain ⟨j, hj, rfl⟩ := mem_getD ha
    rw [List.length_map, Array.length_toList] at hj
    rw [← numAt_eq]; exact h2 j (by omega)
theorem min_rawT (hh : A.handled = none) (hl : s.heap.IsTuple l its.toArray) (hi : IntsAre its ns) (hne : 0 < ns.length)
    (h : ∀ h' tk M t', (∀ b o, s.heap.get? b = some o → h'.get? b = some o) → M ∈ ns → (∀ a, a ∈ ns → M ≤ a) → Q (.int M t') { s with heap := h', toks := tk }) : wpAny (model prog w) A (call (.builtin "min") [.ref l]) Q E s := by
  obtain ⟨xs, e⟩ := hi.allInts.items
  have hn : numsOf (intItems xs).toList = ns := by rw [← e]; exact hi.numsOf
  rw [nums_intItems] at hn
  subst hn
  rw [e] at hl
  have hsz : 0 < xs.size := by simpa using hne
  refine call_min_walk (iter_intTuple hl fun s₂ e st hfp hlI => ?_)
  subst e
  refine ⟨_, _, _, _, _, _, _, rfl, Walks.tuple (A := A.in1) hh _ l hlI (intItems xs), st, hfp, by simpa [intItems] using hsz, CmpOf.ints_lt (numAt xs) (fun _ _ => intItems_at), fun v h' tk hP hk => ?_⟩
  have hv : (intItems xs)[argBest (fun i j => decide (numAt xs i < numAt xs j)) (xs.size - 1)]? = some v := by simpa [intItems] using hP
  obtain ⟨t, rfl⟩ := intItems_at hv
  obtain ⟨h1, h2⟩ := argBest_lt (numAt xs) (xs.size - 1)
  refine h h' tk _ t (old_keptT hk) ?_ fun a ha => ?_
  · rw [numAt_eq]; exact PySem.getD_mem (by rw [List.length_map, Array.length_toList]; omega)
  · obtain ⟨j, hj, rfl⟩ := mem_getD ha
    rw [List.length_map, Array.length_toList] at hj
    rw [← numAt_eq]; exact h2 j (by omega)
end
def rMaxT (K : PySem.W.Frag) : List V → Hp → VK → Prop := fun vs H Q => ∃ (a : Addr) (ns : List Int), vs = [V.ref a] ∧ SqT K H a (ns.map V.int) ∧ 0 < ns.length ∧ ∀ m, m ∈ ns → (∀ y, y ∈ ns → y ≤ m) → Q (.int m) H
def rMinT (K : PySem.W.Frag) : List V → Hp → VK → Prop := fun vs H Q => ∃ (a : Addr) (ns : List Int), vs = [V.ref a] ∧ SqT K H a (ns.map V.int) ∧ 0 < ns.length ∧ ∀ m, m ∈ ns → (∀ y, y ∈ ns → m ≤ y) → Q (.int m) H
theorem cr_maxT {X : Cx} (hc : X.calm = true) : CallR X (.builtin "max") (rMaxT X.K) := by
  intro pins s σ H vs us Q I r h
  obtain ⟨a, ns, rfl, hs, hne, q⟩ := h
  obtain ⟨its, rv, hl, _⟩ := I.tuple hs
  rw [Vals.ref1 r]
  exact max_rawT (I.ok.hd hc) hl rv.ints hne fun h' tk m t' hk h1 h2 => ⟨.int _, H, I.kept hk, ⟨_, rfl⟩, q m h1 h2⟩
theorem cr_minT {X : Cx} (hc : X.calm = true) : CallR X (.builtin "min") (rMinT X.K) := by
  intro pins s σ H vs us Q I r h
  obtain ⟨a, ns, rfl, hs, hne, q⟩ := h
  obtain ⟨its, rv, hl, _⟩ := I.tuple hs
  rw [Vals.ref1 r]
  exact min_rawT (I.ok.hd hc) hl rv.ints hne fun h' tk m t' hk h1 h2 => ⟨.int _, H, I.kept hk, ⟨_, rfl⟩, q m h1 h2⟩
theorem itemsI_ok {H0 Z H : Hp} {v : V} {d : D} {ns : List Int} (p : Pre g Z H) (r : RepR g H0 Z H v d) (h : itemsI d = some ns) : ∃ a, v = .ref a ∧ (SqL g.K H a (ns.map V.int) ∨ SqT g.K H a (ns.map V.int)) := by
  obtain ⟨ds, e1, e2⟩ := Option.bind_eq_some_iff.mp h
  obtain ⟨a, ws, rfl, k1, k2, k3⟩ := r.seq p e1
  have e3 := k3.intsI e2
  subst e3
  exact ⟨a, rfl, k1⟩
theorem blt_max : BltS g (fun xs H Q => (∃ i j, xs = [.int i, .int j] ∧ Q (.int (if j > i then j else i)) H) ∨ rMax g.K xs H Q ∨ rMaxT g.K xs H Q) maxB := by
  intro H0 Z H xs vs Q E p r h
  unfold maxB at h
  split at h
  · obtain ⟨v, w, rfl, rv, rw'⟩ := r.two
    cases rv; cases rw'
    exact .inl ⟨_, _, rfl, h.now p (.int _)⟩
  · split at h
    · rename_i m e
      obtain ⟨ns, e1, e2⟩ := Option.bind_eq_some_iff.mp e
      obtain ⟨v, rfl, rv⟩ := r.one
      obtain ⟨a, rfl, h1⟩ := itemsI_ok p rv e1
      obtain ⟨k1, k2⟩ := maxL_ok e2
      rcases h1 with h1 | h1
      · exact .inr (.inl ⟨a, ns, rfl, h1, k1, fun k hk hy => by rw [k2 k hk hy]; exact h.now p (.int _)⟩)
      · exact .inr (.inr ⟨a, ns, rfl, h1, k1, fun k hk hy => by rw [k2 k hk hy]; exact h.now p (.int _)⟩)
    · exact h.elim
  · exact h.elim
theorem blt_min : BltS g (fun xs H Q => (∃ i j, xs = [.int i, .int j] ∧ Q (.int (if j < i then j else i)) H) ∨ rMin g.K xs H Q ∨ rMinT g.K xs H Q) minB := by
  intro H0 Z H xs vs Q E p r h
  unfold minB at h
  split at h
  · obtain ⟨v, w, rfl, rv, rw'⟩ := r.two
    cases rv; cases rw'
    exact .inl ⟨_, _, rfl, h.now p (.int _)⟩
  · split at h
    · rename_i m e
      obtain ⟨ns, e1, e2⟩ := Option.bind_eq_some_iff.mp e
      obtain ⟨v, rfl, rv⟩ := r.one
      obtain ⟨a, rfl, h1⟩ := itemsI_ok p rv e1
      obtain ⟨k1, k2⟩ := minL_ok e2
      rcases h1 with h1 | h1
      · exact .inr (.inl ⟨a, ns, rfl, h1, k1, fun k hk hy => by rw [k2 k hk hy]; exact h.now p (.int _)⟩)
      · exact .inr (.inr ⟨a, ns, rfl, h1, k1, fun k hk hy => by rw [k2 k hk hy]; exact h.now p (.int _)⟩)
    · exact h.elim
  · exact h.elim
theorem blt_len : BltS g (fun xs H Q => ∃ p ys, xs = [.ref p] ∧ (SqL g.K H p ys ∨ SqT g.K H p ys) ∧ Q (.int ys.length) H) lenB := by
  intro H0 Z H xs vs Q E p r h
  unfold lenB at h
  split at h
  · split at h
    · rename_i ds e
      obtain ⟨v, rfl, rv⟩ := r.one
      obtain ⟨a, vs, rfl, h1, h2, h3⟩ := rv.seq p e
      exact ⟨a, vs, rfl, h1, by rw [h3.length]; exact h.now p (.int _)⟩
    · exact h.elim
  · exact h.elim
def rSumT (K : PySem.W.Frag) : List V → Hp → VK → Prop := fun vs H Q => ∃ (a : Addr) (ns : List Int), vs = [V.ref a] ∧ SqT K H a (ns.map V.int) ∧ Q (.int ns.sum) H
theorem cr_sumT {X : Cx} (hc : X.calm = true) : CallR X (.builtin "sum") (rSumT X.K) := by
  intro pins s σ H vs us Q I r h
  obtain ⟨a, ns, rfl, hs, q⟩ := h
  obtain ⟨its, rv, hl, _⟩ := I.tuple hs
  rw [Vals.ref1 r]
  exact sum_rawT (I.ok.hd hc) hl rv.ints fun h' tk t' hk => ⟨.int _, H, I.kept hk, ⟨_, rfl⟩, q⟩
theorem blt_sum : BltS g (fun xs H Q => rSum g.K xs H Q ∨ rSumT g.K xs H Q) sumB := by
  intro H0 Z H xs vs Q E p r h
  unfold sumB at h
  split at h
  · split at h
    · rename_i ns e
      obtain ⟨v, rfl, rv⟩ := r.one
      obtain ⟨ds, e1, e2⟩ := Option.bind_eq_some_iff.mp e
      obtain ⟨a, ws, rfl, k1, k2, k3⟩ := rv.seq p e1
      have e3 := k3.intsI e2
      subst e3
      rcases k1 with k1 | k1
      · exact .inl ⟨a, ns, rfl, k1, h.now p (.int _)⟩
      · exact .inr ⟨a, ns, rfl, k1, h.now p (.int _)⟩
    · exact h.elim
  · exact h.elim
theorem blt_all : BltS g (rAll g.K) allB := by
  intro H0 Z H xs vs Q E p r h
  unfold allB at h
  split at h
  · split at h
    · rename_i ns e
      obtain ⟨v, rfl, rv⟩ := r.one
      obtain ⟨a, rfl, h1⟩ := seqB_ok p rv e
      exact ⟨a, ns, rfl, h1, h.now p (.bl _)⟩
    · exact h.elim
  · exact h.elim
theorem blt_any : BltS g (rAny g.K) anyB := by
  intro H0 Z H xs vs Q E p r h
  unfold anyB at h
  split at h
  · split at h
    · rename_i ns e
      obtain ⟨v, rfl, rv⟩ := r.one
      obtain ⟨a, rfl, h1⟩ := seqB_ok p rv e
      exact ⟨a, ns, rfl, h1, h.now p (.bl _)⟩
    · exact h.elim
  · exact h.elim
theorem insI_perm (x : Int) : ∀ ys : List Int, (insI x ys).Perm (x :: ys)
  | [] => .refl _
  | y :: ys => by
    unfold insI
    split
    · exact .refl _
    · exact ((insI_perm x ys).cons y).trans (.swap x y ys)
theorem sortI_perm : ∀ xs : List Int, (sortI xs).Perm xs
  | [] => .refl _
  | x :: xs => (insI_perm x (sortI xs)).trans ((sortI_perm xs).cons x)
theorem insI_sorted (x : Int) : ∀ ys : List Int, ys.Pairwise (· ≤ ·) → (insI x ys).Pairwise (· ≤ ·)
  | [], _ => by simp [insI]
  | y :: ys, h => by
    unfold insI
    rw [List.pairwise_cons] at h
    split
    · rename_i q
      rw [List.pairwise_cons, List.pairwise_cons]
      refine ⟨fun z hz => ?_, h⟩
      rcases List.mem_cons.mp hz with e | e
      · subst e; exact q
      · exact Int.le_trans q (h.1 z e)
    · rename_i q
      rw [List.pairwise_cons]
      refine ⟨fun z hz => ?_, insI_sorted x ys h.2⟩
      rcases List.mem_cons.mp ((insI_perm x ys).mem_iff.mp hz) with e | e
      · subst e; omega
      · exact h.1 z e
theorem sortI_sorted : ∀ xs : List Int, (sortI xs).Pairwise (· ≤ ·)
  | [] => .nil
  | x :: xs => insI_sorted x _ (sortI_sorted xs)
theorem blt_sorted : BltS g (rSorted g.K) sortedB := by
  intro H0 Z H xs vs Q E p r h
  unfold sortedB at h
  split at h
  · split at h
    · rename_i ns e
      split at h
      · rename_i c
        obtain ⟨v, rfl, rv⟩ := r.one
        obtain ⟨a, rfl, h1, _⟩ := seqI_ok p rv e
        refine ⟨a, ns, rfl, h1, c, fun ns' q hp hs hq => ?_⟩
        have e : ns' = sortI ns := PySem.W.ksm_same (hp.trans (sortI_perm ns).symm) hs (sortI_sorted ns)
        subst e
        exact h.newL p (Reps.ofInts _) (by rw [List.length_map, (sortI_perm ns).length_eq]; exact small64 c) hq
      · exact h.elim
    · exact h.elim
  · exact h.elim
theorem blt_list : BltS g (fun xs H Q => ∃ p ys, xs = [.ref p] ∧ (SqL g.K H p ys ∨ SqT g.K H p ys) ∧ ∀ l, H l = none → Q (.ref l) (upd H l (.lst ys))) listB := by
  intro H0 Z H xs vs Q E p r h
  unfold listB at h
  split at h
  · split at h
    · rename_i ds e
      obtain ⟨v, rfl, rv⟩ := r.one
      obtain ⟨a, vs, rfl, h1, h2, h3⟩ := rv.seq p e
      exact ⟨a, vs, rfl, h1, fun l hl => h.newL p h3 h2 hl⟩
    · exact h.elim
  · exact h.elim
theorem blt_tuple : BltS g (fun xs H Q => ∃ p ys, xs = [.ref p] ∧ ((SqL g.K H p ys ∧ ∀ l, H l = none → Q (.ref l) (upd H l (.tup ys))) ∨ (SqT g.K H p ys ∧ Q (.ref p) H))) tupleB := by
  intro H0 Z H xs vs Q E p r h
  unfold tupleB at h
  split at h
  · split at h
    · rename_i ds e
      obtain ⟨v, rfl, rv⟩ := r.one
      rename_i d _
      cases d <;> simp [items] at e
      · subst e
        cases rv with
        | tup b1 b2 b3 => exact ⟨_, _, rfl, .inr ⟨.of (p.zh _ _ b1), h.now p (.tup b1 b2 b3)⟩⟩
      · subst e
        obtain ⟨a, vs, rfl, h1, h2, h3⟩ := rv.lst p rfl
        exact ⟨a, vs, rfl, .inl ⟨.of h1, fun l hl => h.newT p h3 h2 hl⟩⟩
      · subst e
        cases rv with
        | scr b1 b2 => exact ⟨_, _, rfl, .inl ⟨sq_sub p.zh b1, fun l hl => h.newT p (Reps.ofInts _) (by rw [List.length_map, sizeLine_eq]; omega) hl⟩⟩
      · subst e
        obtain ⟨a, vs, rfl, h1, h2, h3⟩ := rv.lst p rfl
        exact ⟨a, vs, rfl, .inl ⟨.of h1, fun l hl => h.newT p h3 h2 hl⟩⟩
      · subst e
        obtain ⟨a, vs, rfl, h1, h2, h3⟩ := rv.lst p rfl
        exact ⟨a, vs, rfl, .inl ⟨.of h1, fun l hl => h.newT p h3 h2 hl⟩⟩
    · exact h.elim
  · exact h.elim
theorem blt_int : BltS g (fun xs H Q => (∃ i, xs = [.int i] ∧ Q (.int i) H) ∨ ∃ k, xs = [.bl k] ∧ Q (.int (if k then 1 else 0)) H) intB := by
  intro H0 Z H xs vs Q E p r h
  unfold intB at h
  split at h
  · obtain ⟨v, rfl, rv⟩ := r.one
    cases rv
    exact .inl ⟨_, rfl, h.now p (.int _)⟩
  · exact h.elim
theorem blt_gcd : BltS g rGcd gcdB := by
  intro H0 Z H xs vs Q E p r h
  unfold gcdB at h
  split at h
  · obtain ⟨v, u, rfl, rv, ru⟩ := r.two
    cases rv
    cases ru
    exact ⟨_, _, rfl, h.now p (.int _)⟩
  · exact h.elim
def rComb : List V → Hp → VK → Prop := fun vs H Q => ∃ a b : Int, vs = [.int a, .int b] ∧ 0 ≤ a ∧ 0 ≤ b ∧ a ≤ 18000 ∧ Q (.int (PySem.W.mcComb a b)) H
theorem cr_comb {X : Cx} : CallR X (.builtin "math.comb") rComb := by
  intro pins s σ H vs us Q I r h
  obtain ⟨a, b, rfl, h1, h2, h3, q⟩ := h
  obtain ⟨t, u, rfl⟩ := Vals.int2 r
  exact PySem.W.mc_comb h1 h2 (Int.lt_of_le_of_lt h3 (by decide +kernel)) (.inr h3) fun _ => ⟨.int _, H, I.tok _, ⟨_, rfl⟩, q⟩
theorem blt_comb : BltS g rComb combB := by
  intro H0 Z H xs vs Q E p r h
  unfold combB at h
  split at h
  · split at h
    · rename_i hc
      obtain ⟨v, u, rfl, rv, ru⟩ := r.two
      cases rv
      cases ru
      exact ⟨_, _, rfl, hc.1, hc.2.1, hc.2.2, h.now p (.int _)⟩
    · exact h.elim
  · exact h.elim
theorem log_lt {n : Nat} (h : n < 2 ^ 200) : n.log2 < 1920 := by
  rcases Nat.eq_zero_or_pos n with rfl | hp
  · decide
  · exact Nat.lt_of_lt_of_le ((Nat.log2_lt (by omega)).mpr h) (by decide)
theorem blt_str : BltS g (fun xs H Q => ∃ i : Int, xs = [.int i] ∧ i.natAbs.log2 < 1920 ∧ Q (.str (toString i)) H) strB := by
  intro H0 Z H xs vs Q E p r h
  unfold strB at h
  split at h
  · split at h
    · rename_i hc
      obtain ⟨v, rfl, rv⟩ := r.one
      cases rv
      exact ⟨_, rfl, log_lt hc, h.now p (.str _)⟩
    · exact h.elim
  · exact h.elim
/-! ### isinstance -/
def KOk (T : String) (k : D → Option Bool) : Prop := (∀ i, k (.int i) = kitB "int" T) ∧ (∀ b, k (.bl b) = kitB "bool" T) ∧ k .non = kitB "NoneType" T ∧ (∀ x, k (.str x) = kitB "str" T) ∧ (∀ xs, k (.tup xs) = kitB "tuple" T) ∧ (∀ xs, k (.lst xs) = kitB "list" T) ∧ k .emp = kitB "dict" T ∧
  (∀ c, k (.exc c) = none) ∧ k .sta = none ∧ (∀ ns, k (.scr ns) = none) ∧ (∀ xs, k (.bor xs) = none) ∧ (∀ xs, k (.new xs) = none)
theorem kok_int : KOk "int" kInt := by
  refine ⟨fun _ => ?_, fun _ => ?_, ?_, fun _ => ?_, fun _ => ?_, fun _ => ?_, ?_, fun _ => rfl, rfl, fun _ => rfl, fun _ => rfl, fun _ => rfl⟩ <;> first | exact Eq.symm (show kitB _ _ = some true by decide +kernel) | exact Eq.symm (show kitB _ _ = some false by decide +kernel)
theorem kok_bool : KOk "bool" kBool := by
  refine ⟨fun _ => ?_, fun _ => ?_, ?_, fun _ => ?_, fun _ => ?_, fun _ => ?_, ?_, fun _ => rfl, rfl, fun _ => rfl, fun _ => rfl, fun _ => rfl⟩ <;> first | exact Eq.symm (show kitB _ _ = some true by decide +kernel) | exact Eq.symm (show kitB _ _ = some false by decide +kernel)
theorem kok_tup : KOk "tuple" kTup := by
  refine ⟨fun _ => ?_, fun _ => ?_, ?_, fun _ => ?_, fun _ => ?_, fun _ => ?_, ?_, fun _ => rfl, rfl, fun _ => rfl, fun _ => rfl, fun _ => rfl⟩ <;> first | exact Eq.symm (show kitB _ _ = some true by decide +kernel) | exact Eq.symm (show kitB _ _ = some false by decide +kernel)
theorem kok_lst : KOk "list" kLst := by
  refine ⟨fun _ => ?_, fun _ => ?_, ?_, fun _ => ?_, fun _ => ?_, fun _ => ?_, ?_, fun _ => rfl, rfl, fun _ => rfl, fun _ => rfl, fun _ => rfl⟩ <;> first | exact Eq.symm (show kitB _ _ = some true by decide +kernel) | exact Eq.symm (show kitB _ _ = some false by decide +kernel)
theorem kok_str : KOk "str" kStr := by
  refine ⟨fun _ => ?_, fun _ => ?_, ?_, fun _ => ?_, fun _ => ?_, fun _ => ?_, ?_, fun _ => rfl, rfl, fun _ => rfl, fun _ => rfl, fun _ => rfl⟩ <;> first | exact Eq.symm (show kitB _ _ = some true by decide +kernel) | exact Eq.symm (show kitB _ _ = some false by decide +kernel)
theorem isKind_ok {T : String} {k : D → Option Bool} (o : KOk T k) {H0 Z H : Hp} {d : D} {v : V} {Q : VK} {E : Nat → Nat → Prop} (p : Pre g Z H) (r : RepR g H0 Z H v d) (h : (isKind k [d]).All (Post g Z H Q) E (g.bud H)) : rIsi g.K [v, .ty T] H Q := by
  obtain ⟨o1, o2, o3, o4, o5, o6, o7, o8, o9, o10, o11, o12⟩ := o
  unfold isKind at h
  simp only at h
  split at h
  · rename_i b e
    have fin : ∀ t : String, TyX g.K H v (.type t) → kitB t T = some b → rIsi g.K [v, .ty T] H Q := fun t ty q => ⟨v, .ty T, _, _, b, rfl, .ty T, ty, kit_ty q, h.now p (.bl b)⟩
    cases d
    · cases r; exact fin _ (.base .non) (o3 ▸ e)
    · cases r; exact fin _ (.base (.bl _)) (o2 _ ▸ e)
    · cases r; exact fin _ (.base (.int _)) (o1 _ ▸ e)
    · cases r; exact fin _ (.base (.str _)) (o4 _ ▸ e)
    · cases r with | tup b1 b2 b3 => exact fin _ (.base (.tup (p.zh _ _ b1))) (o5 _ ▸ e)
    · cases r with | lst b1 b2 b3 => exact fin _ (.base (.lst (p.zh _ _ b1))) (o6 _ ▸ e)
    · cases r with | emp b1 => exact fin _ (.base (.dK (p.zh _ _ b1))) (o7 ▸ e)
    · rw [o8] at e; cases e
    · rw [o9] at e; cases e
    · rw [o10] at e; cases e
    · rw [o11] at e; cases e
    · rw [o12] at e; cases e
  · exact h.elim
end PV
end
section
set_option maxHeartbeats 4000000
/-! PvS3: which term of the small language stands for which expression; readings. -/
namespace PV
open PySem PySem.Spec PyProof.Rows L2
variable {g : G}

structure Ck where
  N : List Str
  fns : List (Nat × Str × Nat)
  cons : List (Str × Int)
  cls : List (Nat × Str)
  kws : List (Nat × Str × List Str × List Nat) := []
  mws : List (Nat × Str × Nat × List Str × List Nat) := []
  bfs : List (Str × String) := []
  lam : Option Scope := none
  nx : Nat := 0
  exs : List (Nat × Str) := []
def visK : Option NameKind → Bool
  | some .local => true | some .cell => true | some .free => true | _ => false
def visB (ck : Ck) (sc : Scope) (i : Nat) (x : Str) : Bool := decide (ck.N[i]? = some x) && visK (sc.names.lookup x) && !(x == ("__debug__" : Str)) && !(x == ("__classdict__" : Str))
def glB (sc : Scope) (x : Str) : Bool := decide (sc.names.lookup x = some .globalImplicit) && !(x == ("__debug__" : Str)) && decide (x ≠ ("__name__" : Str))
def bopB : BOp → Operator → Bool
  | .add, .Add => true | .sub, .Sub => true | .mul, .Mult => true | .fdiv, .FloorDiv => true | .mod, .Mod => true | .pow, .Pow => true | _, _ => false
def copB : COp → CmpOp → Bool
  | .lt, .Lt => true | .le, .LtE => true | .gt, .Gt => true | .ge, .GtE => true | .eq, .Eq => true | .ne, .NotEq => true | .is, .Is => true | .isn, .IsNot => true | .inn, .In => true | .nin, .NotIn => true | _, _ => false
def bltName : Blt → Str
  | .abs => "abs" | .max => "max" | .min => "min" | .len => "len" | .sum => "sum" | .all => "all" | .any => "any" | .sorted => "sorted" | .list => "list" | .tuple => "tuple" | .int => "int"
  | .isint => "isinstance" | .isbool => "isinstance" | .istup => "isinstance" | .islst => "isinstance" | .isstr => "isinstance" | .gcd => "gcd" | .comb => "comb" | .str => "str"
/-- of a module of built-in functions -/
def bltMod : Blt → Option String
  | .gcd => some "math.gcd" | .comb => some "math.comb" | _ => none
def modB (ck : Ck) (f : Blt) : Bool := match bltMod f with
  | none => true
  | some id => decide ((bltName f, id) ∈ ck.bfs)
def op0P : O0 → Expr → Bool
  | .emp, .Dict [] [] _ => true
  | _, _ => false
def op1P : O1 → Expr → Option Expr
  | .rev, .Subscript e (.Slice none none (some (.UnaryOp .USub (.Constant (.int i) _ _) _)) _) _ => if i = 1 then some e else none
  | _, _ => none
def kindName : Blt → Option Str
  | .isint => some "int" | .isbool => some "bool" | .istup => some "tuple" | .islst => some "list" | .isstr => some "str" | _ => none
def plainE : Expr → Bool
  | .Starred .. => false | _ => true
def kwNames (l : List Keyword) : List Str := l.filterMap (·.arg)
def kwSome (l : List Keyword) : Bool := l.all (·.arg.isSome)
def isYes : X → Bool
  | .yes => true | _ => false
def condB : List Expr → Bool → (Expr → Bool) → Bool
  | [], y, _ => y
  | [c], _, f => f c
  | _, _, _ => false
def tailB (es : List Expr) (p q : Bool) : Bool := match es with
  | [] => p
  | _ => q
def notSetB : Expr → Bool
  | .Set .. => false | _ => true
def plainIxB : Expr → Bool
  | .Slice .. => false | _ => true
/-- a name that is stored; f: cells of the block's own -/
def nmB (ck : Ck) (sc : Scope) (f : Str → Bool) (i : Nat) : Expr → Bool
  | .Name x _ => decide (ck.N[i]? = some x) && (decide (sc.names.lookup x = some .local) || (decide (sc.names.lookup x = some .cell) && f x))
  | _ => false
def nmsB (ck : Ck) (sc : Scope) (f : Str → Bool) : List Nat → List Expr → Bool
  | [], [] => true
  | i :: is, e :: es => nmB ck sc f i e && nmsB ck sc f is es
  | _, _ => false
def tgCell (ck : Ck) (sc : Scope) (f : Str → Bool) : Tg → Expr → Bool
  | .nm i, e => nmB ck sc f i e
  | .tp is, .Tuple es _ _ => nmsB ck sc f is es
  | _, _ => false
def tgIn (own : List (Str × Nat)) : Tg → Bool
  | .nm i => decide (i ∈ own.map (·.2))
  | .tp is => is.all fun i => decide (i ∈ own.map (·.2))
def noParams : Arguments → Bool
  | ⟨[], [], none, [], [], none, []⟩ => true
  | _ => false
section
variable (ck : Ck)
mutual
def chkE : X → Scope → Expr → Bool
  | .non, _, .Constant .none _ _ => true
  | .bl b, _, .Constant (.bool c) _ _ => b == c
  | .int i, _, .Constant (.int j) _ _ => i == j
  | .str x, _, .Constant (.str y) _ _ => decide (x = y)
  | .var i, sc, .Name x _ => visB ck sc i x
  | .con y i, sc, .Name x _ => decide (x = y) && glB sc x && decide ((x, i) ∈ ck.cons)
  | .bin op a b, sc, .BinOp ea o eb _ => bopB op o && chkE a sc ea && chkE b sc eb
  | .neg a, sc, .UnaryOp .USub ea _ => chkE a sc ea
  | .cmp op a b, sc, .Compare ea [o] [eb] _ => copB op o && chkE a sc ea && chkE b sc eb && !(behindInMarks o eb)
  | .chain op oq a b c, sc, .Compare ea [o, q] [eb, ec] _ => copB op o && copB oq q && chkE a sc ea && chkE b sc eb && chkE c sc ec && !(lastMarks [o, q] [eb, ec])
  | .and a b, sc, .BoolOp .And (ea :: eb :: es) pos => chkE a sc ea && tailB es (chkE b sc eb) (chkE b sc (.BoolOp .And (eb :: es) pos))
  | .or a b, sc, .BoolOp .Or (ea :: eb :: es) pos => chkE a sc ea && tailB es (chkE b sc eb) (chkE b sc (.BoolOp .Or (eb :: es) pos))
  | .not a, sc, .UnaryOp .Not ea _ => chkE a sc ea
  | .ite t a b, sc, .IfExp et ea eb _ => chkT t sc et && chkE a sc ea && chkE b sc eb
  | .tup as, sc, .Tuple es _ _ => chkA as sc es
  | .lst as, sc, .List es _ => chkA as sc es
  | .idx a i, sc, .Subscript ea ei _ => chkE a sc ea && chkE i sc ei && plainIxB ei
  | .slc a lo hi, sc, .Subscript ea (.Slice l h none _) _ => chkE a sc ea && chkO lo sc l && chkO hi sc h
  | .call f as, sc, .Call (.Name x _) (e :: es) [] _ => glB sc x && decide ((f, x, (e :: es).length) ∈ ck.fns) && chkA as sc (e :: es) && (e :: es).all plainE
  | .callK f perm as, sc, .Call (.Name x _) [] (kw :: kws) _ => glB sc x && decide ((f, x, kwNames (kw :: kws), perm) ∈ ck.kws) && kwSome (kw :: kws) && chkA as sc ((kw :: kws).map (·.value))
  | .blt f as, sc, .Call (.Name x _) (e :: es) [] _ => glB sc x && decide (x = bltName f) && decide (kindName f = none) && chkR as sc (e :: es) && (e :: es).all plainE && modB ck f
  | .op0 o, _, e => op0P o e
  | .op1 o a, sc, e => (match op1P o e with | some ea => chkE a sc ea | none => false)
  | .callM f m perm as bs, sc, .Call (.Name x _) (e :: es) (kw :: kws) _ => glB sc x && decide (m = es.length + 1) && decide ((f, x, m, kwNames (kw :: kws), perm) ∈ ck.mws) && kwSome (kw :: kws) && chkA as sc (e :: es) && (e :: es).all plainE && chkA bs sc ((kw :: kws).map (·.value))
  | .isk f a, sc, .Call (.Name x _) [e, .Name y _] [] _ => glB sc x && decide (x = bltName f) && glB sc y && decide (kindName f = some y) && chkE a sc e && plainE e
  | .caught nx b, sc, .Call (.Name x _) [.Lambda params body scope _] [] _ => decide (x = ("_law_caught" : Str)) && glB sc x && decide (ck.lam = some sc) && decide (ck.nx = nx) && noParams params && LamX.lamSB sc scope && decide (ck.lam ≠ some scope) && chkE b scope body
  | .isx nx k a, sc, .Call (.Name x _) [e, .Name y _] [] _ => glB sc x && decide (x = ("isinstance" : Str)) && glB sc y && decide ((k, y) ∈ ck.exs) && decide (ck.nx = nx) && chkE a sc e && plainE e
  | .comp tg it cond elt own, sc, .ListComp el [⟨tge, ite, ifs, 0⟩] scope _ => blkC ck.N sc scope own && decide (ck.lam ≠ some (relS scope sc)) && tgCell ck (relS scope sc) (fun x => scope.names.lookup x == some .cell) tg tge && tgIn own tg && notSetB ite && chkI it sc tge ite && condB ifs (isYes cond) (chkT cond (relS scope sc)) && chkE elt (relS scope sc) el
  | _, _, _ => false
termination_by structural t => t
def chkT : X → Scope → Expr → Bool
  | .and a b, sc, .BoolOp .And (ea :: eb :: es) pos => chkT a sc ea && tailB es (chkT b sc eb) (chkW b sc (.BoolOp .And (eb :: es) pos))
  | .or a b, sc, .BoolOp .Or (ea :: eb :: es) pos => chkT a sc ea && tailB es (chkT b sc eb) (chkW b sc (.BoolOp .Or (eb :: es) pos))
  | .not a, sc, .UnaryOp .Not ea _ => chkT a sc ea
  | .cmp op a b, sc, .Compare ea [o] [eb] _ => copB op o && chkE a sc ea && chkE b sc eb && !(behindInMarks o eb)
  | .chain op oq a b c, sc, .Compare ea [o, q] [eb, ec] _ => copB op o && copB oq q && chkE a sc ea && chkE b sc eb && chkE c sc ec && !(lastMarks [o, q] [eb, ec])
  | .var i, sc, .Name x _ => visB ck sc i x
  | .call f as, sc, .Call (.Name x _) (e :: es) [] _ => glB sc x && decide ((f, x, (e :: es).length) ∈ ck.fns) && chkA as sc (e :: es) && (e :: es).all plainE
  | .callK f perm as, sc, .Call (.Name x _) [] (kw :: kws) _ => glB sc x && decide ((f, x, kwNames (kw :: kws), perm) ∈ ck.kws) && kwSome (kw :: kws) && chkA as sc ((kw :: kws).map (·.value))
  | .blt f as, sc, .Call (.Name x _) (e :: es) [] _ => glB sc x && decide (x = bltName f) && decide (kindName f = none) && chkR as sc (e :: es) && (e :: es).all plainE && modB ck f
  | .op1 o a, sc, e => (match op1P o e with | some ea => chkE a sc ea | none => false)
  | .callM f m perm as bs, sc, .Call (.Name x _) (e :: es) (kw :: kws) _ => glB sc x && decide (m = es.length + 1) && decide ((f, x, m, kwNames (kw :: kws), perm) ∈ ck.mws) && kwSome (kw :: kws) && chkA as sc (e :: es) && (e :: es).all plainE && chkA bs sc ((kw :: kws).map (·.value))
  | .isk f a, sc, .Call (.Name x _) [e, .Name y _] [] _ => glB sc x && decide (x = bltName f) && glB sc y && decide (kindName f = some y) && chkE a sc e && plainE e
  | .isx nx k a, sc, .Call (.Name x _) [e, .Name y _] [] _ => glB sc x && decide (x = ("isinstance" : Str)) && glB sc y && decide ((k, y) ∈ ck.exs) && decide (ck.nx = nx) && chkE a sc e && plainE e
  | _, _, _ => false
termination_by structural t => t
def chkW : X → Scope → Expr → Bool
  | .and a b, sc, .BoolOp .And (ea :: eb :: es) pos => chkT a sc ea && tailB es (chkT b sc eb) (chkW b sc (.BoolOp .And (eb :: es) pos))
  | .or a b, sc, .BoolOp .Or (ea :: eb :: es) pos => chkT a sc ea && tailB es (chkT b sc eb) (chkW b sc (.BoolOp .Or (eb :: es) pos))
  | _, _, _ => false
termination_by structural t => t
def chkA : X → Scope → List Expr → Bool
  | .nil, _, [] => true
  | .cons a as, sc, e :: es => chkE a sc e && plainE e && chkA as sc es
  | _, _, _ => false
termination_by structural t => t
def chkR : X → Scope → List Expr → Bool
  | .nil, _, [] => true
  | .cons a as, sc, e :: es => chkE a sc e && plainE e && chkR as sc es
  | _, _, _ => false
termination_by structural t => t
def chkO : X → Scope → Option Expr → Bool
  | .nopart, _, none => true
  | .part a, sc, some e => chkE a sc e
  | _, _, _ => false
termination_by structural t => t
def chkI : X → Scope → Expr → Expr → Bool
  | .cap a, sc, tg, e => chkI a sc tg e
  | .rng1 a, sc, _, .Call (.Name x _) [e] [] _ => glB sc x && decide (x = ("range" : Str)) && chkE a sc e && plainE e
  | .rng2 a b, sc, _, .Call (.Name x _) [e, f] [] _ => glB sc x && decide (x = ("range" : Str)) && chkE a sc e && chkE b sc f && plainE e && plainE f
  | .zip a b, sc, .Tuple _ _ _, .Call (.Name x _) [e, f] [] _ => glB sc x && decide (x = ("zip" : Str)) && chkE a sc e && chkE b sc f && plainE e && plainE f
  | .enum a, sc, .Tuple _ _ _, .Call (.Name x _) [e] [] _ => glB sc x && decide (x = ("enumerate" : Str)) && chkE a sc e && plainE e
  | .var i, sc, _, .Name x _ => visB ck sc i x
  | .tup as, sc, _, .Tuple es _ _ => chkA as sc es
  | .lst as, sc, _, .List es _ => chkA as sc es
  | .idx a i, sc, _, .Subscript ea ei _ => chkE a sc ea && chkE i sc ei && plainIxB ei
  | .slc a lo hi, sc, _, .Subscript ea (.Slice l h none _) _ => chkE a sc ea && chkO lo sc l && chkO hi sc h
  | .call f as, sc, _, .Call (.Name x _) (e :: es) [] _ => glB sc x && decide ((f, x, (e :: es).length) ∈ ck.fns) && chkA as sc (e :: es) && (e :: es).all plainE
  | .callK f perm as, sc, _, .Call (.Name x _) [] (kw :: kws) _ => glB sc x && decide ((f, x, kwNames (kw :: kws), perm) ∈ ck.kws) && kwSome (kw :: kws) && chkA as sc ((kw :: kws).map (·.value))
  | .blt f as, sc, _, .Call (.Name x _) (e :: es) [] _ => glB sc x && decide (x = bltName f) && decide (kindName f = none) && chkR as sc (e :: es) && (e :: es).all plainE && modB ck f
  | .op1 o a, sc, _, e => (match op1P o e with | some ea => chkE a sc ea | none => false)
  | .callM f m perm as bs, sc, _, .Call (.Name x _) (e :: es) (kw :: kws) _ => glB sc x && decide (m = es.length + 1) && decide ((f, x, m, kwNames (kw :: kws), perm) ∈ ck.mws) && kwSome (kw :: kws) && chkA as sc (e :: es) && (e :: es).all plainE && chkA bs sc ((kw :: kws).map (·.value))
  | _, _, _, _ => false
termination_by structural t => t
end
end

/-- the frame's values -/
def SlotOk (g : G) (Z H : Hp) : Sl → Option V → Prop
  | .un, _ => True
  | .val d, o => ∃ v, o = some v ∧ Rep g Z v d
  | .own xs, o => ∃ a vs, o = some (.ref a) ∧ H a = some (.lst vs) ∧ vs.length ≤ sizeLine ∧ ¬ g.F a ∧ Z a = none ∧ Reps g Z vs xs
structure Cfg (g : G) (r : Env) (Z : Hp) (σ : L2.St) (H : Hp) : Prop where
  pre : Pre g Z H
  len : r.length = σ.length
  slot : ∀ (i : Nat) (s : Sl), r[i]? = some s → ∃ o, σ[i]? = some o ∧ SlotOk g Z H s o
theorem none_step {Z1 H1 Z2 H2 : Hp} (s : Step g Z1 H1 Z2 H2) {a : Addr} {o : HO} (h : H1 a = some o) (hz : Z1 a = none) : Z2 a = none := by
  rcases none_or (H := Z2) (a := a) with e | ⟨u, e⟩
  · exact e
  · rcases s.new a u e with q | q
    · rw [hz] at q; cases q
    · rw [h] at q; cases q
theorem SlotOk.step {Z H Z' H' : Hp} (s : Step g Z H Z' H') {sl : Sl} {o : Option V} (h : SlotOk g Z H sl o) : SlotOk g Z' H' sl o := by
  cases sl with
  | un => trivial
  | val d => obtain ⟨v, e, r⟩ := h; exact ⟨v, e, r.mono s.z⟩
  | own xs =>
    obtain ⟨a, vs, e, h1, h2, h3, h4, h5⟩ := h
    exact ⟨a, vs, e, s.h _ _ h1 h3, h2, h3, none_step s h1 h4, h5.mono s.z⟩
theorem Cfg.step {r : Env} {Z H Z' H' : Hp} {σ : L2.St} (c : Cfg g r Z σ H) (s : Step g Z H Z' H') : Cfg g r Z' σ H' := ⟨s.pre, c.len, fun i sl e => by
  obtain ⟨o, h1, h2⟩ := c.slot i sl e
  exact ⟨o, h1, h2.step s⟩⟩

/-- readings that keep to what is reckoned -/
def SimE (g : G) (W : Nat → Hp → Prop) (t : TE) (e : Env → T D) : Prop := ∀ (r : Env) (Z : Hp) (σ : L2.St) (H : Hp) (Q : VK), Cfg g r Z σ H → (e r).All (Post g Z H Q) (PostE g Z H W) (g.bud H) → t σ H Q
def PostB (g : G) (Z H : Hp) (Q : Bool → Hp → Prop) (m : Nat) (k : Bool) : Prop := ∀ Z' H', Step g Z H Z' H' → g.bud H' = m → Q k H'
def SimB (g : G) (W : Nat → Hp → Prop) (t : TT) (e : Env → T Bool) : Prop := ∀ (r : Env) (Z : Hp) (σ : L2.St) (H : Hp) (Q : Bool → Hp → Prop), Cfg g r Z σ H → (e r).All (PostB g Z H Q) (PostE g Z H W) (g.bud H) → t σ H Q
def PostA (g : G) (Z H : Hp) (Q : List V → Hp → Prop) (m : Nat) (ds : List D) : Prop := ∀ vs Z' H', Step g Z H Z' H' → g.bud H' = m → Reps g Z' vs ds → Q vs H'
def SimA (g : G) (W : Nat → Hp → Prop) (t : TA) (e : Env → T (List D)) : Prop := ∀ (r : Env) (Z : Hp) (σ : L2.St) (H : Hp) (Q : List V → Hp → Prop), Cfg g r Z σ H → (e r).All (PostA g Z H Q) (PostE g Z H W) (g.bud H) → t σ H Q
/-- new lists among them stand apart -/
def NewD : List V → List D → Prop
  | v :: vs, d :: ds => (∀ xs, d = .new xs → ∀ (k : Nat) (ys : List D), ds[k]? = some (.new ys) → vs[k]? ≠ some v) ∧ NewD vs ds
  | _, _ => True
def PostR (g : G) (Z H : Hp) (Q : List V → Hp → Prop) (m : Nat) (ds : List D) : Prop := ∀ vs Z' H', Step g Z H Z' H' → g.bud H' = m → RepRs g H Z' H' vs ds → NewD vs ds → Q vs H'
def SimR (g : G) (W : Nat → Hp → Prop) (t : TA) (e : Env → T (List D)) : Prop := ∀ (r : Env) (Z : Hp) (σ : L2.St) (H : Hp) (Q : List V → Hp → Prop), Cfg g r Z σ H → (e r).All (PostR g Z H Q) (PostE g Z H W) (g.bud H) → t σ H Q
def PostO (g : G) (Z H : Hp) (Q : Option Int → Hp → Prop) (m : Nat) (o : Option Int) : Prop := ∀ Z' H', Step g Z H Z' H' → g.bud H' = m → Q o H'
def SimO (g : G) (W : Nat → Hp → Prop) (t : TO) (e : Env → T (Option Int)) : Prop := ∀ (r : Env) (Z : Hp) (σ : L2.St) (H : Hp) (Q : Option Int → Hp → Prop), Cfg g r Z σ H → (e r).All (PostO g Z H Q) (PostE g Z H W) (g.bud H) → t σ H Q
/-- an iterator that gives out the items -/
def WalkD (g : G) (J : It) (Z : Hp) (ds : List D) : Prop := ∃ Gd Y, Walk J ds.length Gd Y ∧ (∀ H, Sub Z H → Gd H) ∧
  ∀ i Z1 H x H', i < ds.length → Sub Z Z1 → Pre g Z1 H → Y i H x H' → ∃ Z' d, ds[i]? = some d ∧ Step g Z1 H Z' H' ∧ g.bud H' = g.bud H ∧ Rep g Z' x d
def PostI (g : G) (Z H : Hp) (R : It → Hp → Prop) (m : Nat) (ds : List D) : Prop := ∀ J Z' H', Step g Z H Z' H' → g.bud H' = m → WalkD g J Z' ds → ds.length ≤ sizeLine → R J H'
def SimI (g : G) (W : Nat → Hp → Prop) (t : TI) (e : Env → T (List D)) : Prop := ∀ (r : Env) (Z : Hp) (σ : L2.St) (H : Hp) (R : It → Hp → Prop), Cfg g r Z σ H → (e r).All (PostI g Z H R) (PostE g Z H W) (g.bud H) → t σ H R

section
variable {W : Nat → Hp → Prop} {ta tb tc te : TE} {tt tu : TT} {e f e1 e2 : Env → T D} {b c : Env → T Bool}
/-- the part that comes first -/
theorem SimE.first (h : SimE g W ta e) {α : Type} {k : D → T α} {P : Nat → α → Prop} {r : Env} {Z H : Hp} {σ : L2.St} {Q : VK} (c : Cfg g r Z σ H) (a : (e r >>= k).All P (PostE g Z H W) (g.bud H))
    (q : ∀ d v Z' H', Step g Z H Z' H' → RepR g H Z' H' v d → (k d).All P (PostE g Z' H' W) (g.bud H') → Q v H') : ta σ H Q := by
  rw [all_bind] at a
  exact h r Z σ H Q c (All.mono a (fun d h1 v Z' H' s e rr => by subst e; exact q d v Z' H' s rr (All.mono h1 (fun _ x => x) fun _ x => x.shift s)) fun _ x => x)
theorem SimE.first0 (h : SimE g W ta e) {α : Type} {k : D → T α} {P : Nat → α → Prop} {r : Env} {Z H : Hp} {σ : L2.St} {Q : VK} (c : Cfg g r Z σ H) (a : (e r >>= k).All P (PostE g Z H W) (g.bud H))
    (q : ∀ d v Z' H', Step g Z H Z' H' → RepR g H Z' H' v d → (k d).All P (PostE g Z H W) (g.bud H') → Q v H') : ta σ H Q := by
  rw [all_bind] at a
  exact h r Z σ H Q c (All.mono a (fun d h1 v Z' H' s e rr => by subst e; exact q d v Z' H' s rr h1) fun _ x => x)
theorem allE_shift {α : Type} {P : Nat → α → Prop} {t : T α} {Z H Z1 H1 : Hp} {m : Nat} (s : Step g Z H Z1 H1) (h : t.All P (PostE g Z H W) m) : t.All P (PostE g Z1 H1 W) m := All.mono h (fun _ x => x) fun _ x => x.shift s
/-- from the first moment, its own list frozen -/
theorem Cfg.step2 {r : Env} {Z Z' H' : Hp} {σ : L2.St} {H : Hp} (c : Cfg g r Z σ H) (s : Step g Z H Z' H') : Cfg g r Z' σ H' := c.step s
theorem SimB.first (h : SimB g W tt b) {α : Type} {k : Bool → T α} {P : Nat → α → Prop} {r : Env} {Z H : Hp} {σ : L2.St} {Q : Bool → Hp → Prop} (c : Cfg g r Z σ H) (a : (b r >>= k).All P (PostE g Z H W) (g.bud H))
    (q : ∀ d Z' H', Step g Z H Z' H' → (k d).All P (PostE g Z' H' W) (g.bud H') → Q d H') : tt σ H Q := by
  rw [all_bind] at a
  exact h r Z σ H Q c (All.mono a (fun d h1 Z' H' s e => by subst e; exact q d Z' H' s (All.mono h1 (fun _ x => x) fun _ x => x.shift s)) fun _ x => x)
theorem SimA.first {ta : TA} {e : Env → T (List D)} (h : SimA g W ta e) {α : Type} {k : List D → T α} {P : Nat → α → Prop} {r : Env} {Z H : Hp} {σ : L2.St} {Q : List V → Hp → Prop} (c : Cfg g r Z σ H) (a : (e r >>= k).All P (PostE g Z H W) (g.bud H))
    (q : ∀ d v Z' H', Step g Z H Z' H' → Reps g Z' v d → (k d).All P (PostE g Z' H' W) (g.bud H') → Q v H') : ta σ H Q := by
  rw [all_bind] at a
  exact h r Z σ H Q c (All.mono a (fun d h1 v Z' H' s e rr => by subst e; exact q d v Z' H' s rr (All.mono h1 (fun _ x => x) fun _ x => x.shift s)) fun _ x => x)
theorem SimR.first {ta : TA} {e : Env → T (List D)} (h : SimR g W ta e) {α : Type} {k : List D → T α} {P : Nat → α → Prop} {r : Env} {Z H : Hp} {σ : L2.St} {Q : List V → Hp → Prop} (c : Cfg g r Z σ H) (a : (e r >>= k).All P (PostE g Z H W) (g.bud H))
    (q : ∀ d v Z' H', Step g Z H Z' H' → RepRs g H Z' H' v d → NewD v d → (k d).All P (PostE g Z' H' W) (g.bud H') → Q v H') : ta σ H Q := by
  rw [all_bind] at a
  exact h r Z σ H Q c (All.mono a (fun d h1 v Z' H' s e rr nd => by subst e; exact q d v Z' H' s rr nd (All.mono h1 (fun _ x => x) fun _ x => x.shift s)) fun _ x => x)
theorem RepRs.get {H Z' H' : Hp} : ∀ {vs : List V} {ds : List D} {k : Nat} {d : D}, RepRs g H Z' H' vs ds → ds[k]? = some d → ∃ v, vs[k]? = some v ∧ RepR g H Z' H' v d
  | _, _, _, _, .nil, e => by simp at e
  | _, _, 0, _, .cons r _, e => by simp at e; subst e; exact ⟨_, rfl, r⟩
  | _, _, k + 1, d, .cons _ t, e => by
    obtain ⟨v, h1, h2⟩ := RepRs.get (k := k) (d := d) t (by simpa using e)
    exact ⟨v, by simpa using h1, h2⟩
theorem SimO.first {ta : TO} {e : Env → T (Option Int)} (h : SimO g W ta e) {α : Type} {k : Option Int → T α} {P : Nat → α → Prop} {r : Env} {Z H : Hp} {σ : L2.St} {Q : Option Int → Hp → Prop} (c : Cfg g r Z σ H) (a : (e r >>= k).All P (PostE g Z H W) (g.bud H))
    (q : ∀ d Z' H', Step g Z H Z' H' → (k d).All P (PostE g Z' H' W) (g.bud H') → Q d H') : ta σ H Q := by
  rw [all_bind] at a
  exact h r Z σ H Q c (All.mono a (fun d h1 Z' H' s e => by subst e; exact q d Z' H' s (All.mono h1 (fun _ x => x) fun _ x => x.shift s)) fun _ x => x)
theorem post_shift {Z H Z1 H1 : Hp} {Q : VK} {t : T D} {E : Nat → Nat → Prop} {m : Nat} (s : Step g Z H Z1 H1) (h : t.All (Post g Z H Q) E m) : t.All (Post g Z1 H1 Q) E m := All.mono h (fun _ x => x.shift s) fun _ x => x

theorem sim_c {v : V} {d : D} (h : ∀ Z, Rep g Z v d) : SimE g W (tC v) fun _ => .ret d := fun r Z σ H Q c a => a.now c.pre (h Z)
theorem sim_var {i : Nat} : SimE g W (tVar i) fun r => getV r i := by
  intro r Z σ H Q c a
  unfold getV at a
  cases e : r[i]? with
  | none => simp only [e] at a; exact a.elim
  | some sl =>
    obtain ⟨o, e1, h⟩ := c.slot i sl e
    simp only [e] at a
    cases sl with
    | un => exact a.elim
    | val d =>
      obtain ⟨v, rfl, rv⟩ := h
      exact ⟨v, e1, Post.now c.pre a rv⟩
    | own xs =>
      obtain ⟨p, vs, rfl, h1, h2, h3, h4, h5⟩ := h
      exact ⟨_, e1, a _ Z H (.refl c.pre) rfl ⟨p, vs, rfl, h1, h2, h3, h4, h5⟩⟩
theorem sim_op {rr : R2} {f : D → D → T D} (h : OpS g rr f) (ha : SimE g W ta e1) (hb : SimE g W tb e2) : SimE g W (tOp rr ta tb) fun r => e1 r >>= fun x => e2 r >>= fun y => f x y := by
  intro r Z σ H Q c a
  refine ha.first c a fun x vx Z1 H1 s1 r1 a1 => ?_
  refine hb.first (c.step s1) a1 fun y vy Z2 H2 s2 r2 a2 => ?_
  exact h _ _ Z2 H2 x y vx vy Q _ s2.pre (r1.step s2) r2 (post_shift (s1.trans s2) a2)
theorem sim_cmp {rr : R2} {f : D → D → T Bool} (h : CmpS g rr f) (ha : SimE g W ta e1) (hb : SimE g W tb e2) : SimE g W (tOp rr ta tb) fun r => e1 r >>= fun x => e2 r >>= fun y => f x y >>= fun k => .ret (.bl k) := by
  intro r Z σ H Q c a
  refine ha.first c a fun x vx Z1 H1 s1 r1 a1 => ?_
  refine hb.first (c.step s1) a1 fun y vy Z2 H2 s2 r2 a2 => ?_
  rw [all_bind] at a2
  exact h _ _ Z2 H2 x y vx vy Q _ s2.pre (r1.step s2) r2 (All.mono a2 (fun k q e => by subst e; exact Post.now s2.pre (Post.shift (s1.trans s2) q) (.bl k)) fun _ x => x)
theorem sim_test (h : SimE g W ta e1) : SimB g W (tTest ta) fun r => e1 r >>= toB := by
  intro r Z σ H Q c a
  refine h.first c a fun x vx Z1 H1 s1 r1 a1 => ?_
  cases x <;> first
    | exact a1.elim
    | (cases r1; exact ⟨_, rfl, a1 Z1 H1 s1 rfl⟩)
theorem sim_neg (h : SimE g W ta e1) : SimE g W (tUn (rU fun i => .int (-i)) ta) fun r => e1 r >>= negT := by
  intro r Z σ H Q c a
  refine h.first c a fun x vx Z1 H1 s1 r1 a1 => ?_
  cases x <;> first
    | exact a1.elim
    | (cases r1; exact ⟨_, rfl, Post.now s1.pre (Post.shift s1 a1) (.int _)⟩)
theorem sim_chain {ro rp : R2} {fo fp : D → D → T Bool} (h : CmpS g ro fo) (h' : CmpS g rp fp) {e3 : Env → T D} (ha : SimE g W ta e1) (hb : SimE g W tb e2) (hc : SimE g W tc e3) :
    SimE g W (tChain ro rp ta tb tc) fun r => e1 r >>= fun x => e2 r >>= fun y => fo x y >>= fun k => if k = true then e3 r >>= fun z => fp y z >>= fun k => .ret (.bl k) else .ret (.bl false) := by
  intro r Z σ H Q c a
  refine ha.first c a fun x vx Z1 H1 s1 r1 a1 => ?_
  refine hb.first (c.step s1) a1 fun y vy Z2 H2 s2 r2 a2 => ?_
  rw [all_bind] at a2
  refine h _ _ Z2 H2 x y vx vy _ _ s2.pre (r1.step s2) r2 (All.mono a2 (fun k q e => ?_) fun _ x => x)
  subst e
  refine ⟨k, rfl, ?_⟩
  cases k with
  | false =>
    rw [if_neg Bool.false_ne_true] at q ⊢
    exact Post.now s2.pre (Post.shift (s1.trans s2) q) (.bl _)
  | true =>
    rw [if_pos rfl] at q ⊢
    refine hc.first ((c.step s1).step s2) q fun z vz Z3 H3 s3 r3 a3 => ?_
    rw [all_bind] at a3
    exact h' _ _ Z3 H3 y z vy vz Q _ s3.pre (r2.step s3) r3 (All.mono a3 (fun k q e => by subst e; exact Post.now s3.pre (Post.shift ((s1.trans s2).trans s3) q) (.bl k)) fun _ x => x)
theorem sim_andV (ha : SimE g W ta e1) (hb : SimE g W tb e2) : SimE g W (tAndV ta tb) fun r => e1 r >>= fun x => andT x (e2 r) := by
  intro r Z σ H Q c a
  refine ha.first c a fun x vx Z1 H1 s1 r1 a1 => ?_
  cases x with
  | bl k =>
    cases r1
    refine ⟨k, rfl, ?_⟩
    cases k with
    | false =>
      rw [if_neg Bool.false_ne_true]
      exact Post.now s1.pre (Post.shift s1 a1) (.bl _)
    | true =>
      rw [if_pos rfl]
      exact hb r Z1 σ H1 Q (c.step s1) (post_shift s1 a1)
  | _ => exact a1.elim
theorem sim_orV (ha : SimE g W ta e1) (hb : SimE g W tb e2) : SimE g W (tOrV ta tb) fun r => e1 r >>= fun x => orT x (e2 r) := by
  intro r Z σ H Q c a
  refine ha.first c a fun x vx Z1 H1 s1 r1 a1 => ?_
  cases x with
  | bl k =>
    cases r1
    refine ⟨k, rfl, ?_⟩
    cases k with
    | true =>
      rw [if_pos rfl]
      exact Post.now s1.pre (Post.shift s1 a1) (.bl _)
    | false =>
      rw [if_neg Bool.false_ne_true]
      exact hb r Z1 σ H1 Q (c.step s1) (post_shift s1 a1)
  | _ => exact a1.elim
theorem sim_notV (ha : SimE g W ta e1) : SimE g W (tNotV ta) fun r => e1 r >>= notT := by
  intro r Z σ H Q c a
  refine ha.first c a fun x vx Z1 H1 s1 r1 a1 => ?_
  cases x with
  | bl k =>
    cases r1
    exact ⟨k, rfl, Post.now s1.pre (Post.shift s1 a1) (.bl _)⟩
  | _ => exact a1.elim
theorem sim_if (ht : SimB g W tt b) (ha : SimE g W ta e1) (hb : SimE g W tb e2) : SimE g W (tIf tt ta tb) fun r => b r >>= fun k => if k = true then e1 r else e2 r := by
  intro r Z σ H Q c a
  refine ht.first c a fun k Z1 H1 s1 a1 => ?_
  cases k with
  | true =>
    rw [if_pos rfl] at a1 ⊢
    exact ha r Z1 σ H1 Q (c.step s1) (post_shift s1 a1)
  | false =>
    rw [if_neg Bool.false_ne_true] at a1 ⊢
    exact hb r Z1 σ H1 Q (c.step s1) (post_shift s1 a1)
theorem postB_shift {Z H Z1 H1 : Hp} {Q : Bool → Hp → Prop} {t : T Bool} {E : Nat → Nat → Prop} {m : Nat} (s : Step g Z H Z1 H1) (h : t.All (PostB g Z H Q) E m) : t.All (PostB g Z1 H1 Q) E m := All.mono h (fun _ x Z' H' t e => x Z' H' (s.trans t) e) fun _ x => x
theorem sim_andT (ha : SimB g W tt b) (hb : SimB g W tu c) : SimB g W (tAnd tt tu) fun r => b r >>= fun k => if k = true then c r else .ret false := by
  intro r Z σ H Q cf a
  refine ha.first cf a fun k Z1 H1 s1 a1 => ?_
  cases k with
  | true =>
    rw [if_pos rfl] at a1 ⊢
    exact hb r Z1 σ H1 Q (cf.step s1) (postB_shift s1 a1)
  | false =>
    rw [if_neg Bool.false_ne_true] at a1 ⊢
    exact a1 Z1 H1 s1 rfl
theorem sim_orT (ha : SimB g W tt b) (hb : SimB g W tu c) : SimB g W (tOr tt tu) fun r => b r >>= fun k => if k = true then .ret true else c r := by
  intro r Z σ H Q cf a
  refine ha.first cf a fun k Z1 H1 s1 a1 => ?_
  cases k with
  | true =>
    rw [if_pos rfl] at a1 ⊢
    exact a1 Z1 H1 s1 rfl
  | false =>
    rw [if_neg Bool.false_ne_true] at a1 ⊢
    exact hb r Z1 σ H1 Q (cf.step s1) (postB_shift s1 a1)
theorem sim_notT (ha : SimB g W tt b) : SimB g W (tNot tt) fun r => b r >>= fun k => .ret (!k) := by
  intro r Z σ H Q cf a
  exact ha.first cf a fun k Z1 H1 s1 a1 => a1 Z1 H1 s1 rfl
theorem sim_nilA : SimA g W tNil fun _ => .ret [] := fun r Z σ H Q c a => a [] Z H (.refl c.pre) rfl .nil
theorem sim_consA {tr : TA} {e2 : Env → T (List D)} (ha : SimE g W ta e1) (hb : SimA g W tr e2) : SimA g W (tCons ta tr) fun r => e1 r >>= fun x => fz x >>= fun x => e2 r >>= fun xs => .ret (x :: xs) := by
  intro r Z σ H Q c a
  refine ha.first0 c a fun x vx Z1 H1 s1 r1 a1 => ?_
  rw [all_bind] at a1
  obtain ⟨x', Z2, a2, s2, _, r2⟩ := fz_ok s1 r1 a1
  refine hb.first (c.step s2) (allE_shift s2 a2) fun xs vs Z3 H3 s3 r3 a3 => ?_
  exact a3 (vx :: vs) Z3 H3 (s2.trans s3) rfl (.cons (r2.mono s3.z) r3)
theorem sim_nilR : SimR g W tNil fun _ => .ret [] := fun r Z σ H Q c a => a [] Z H (.refl c.pre) rfl .nil trivial
theorem sim_consR {tr : TA} {e2 : Env → T (List D)} (ha : SimE g W ta e1) (hb : SimR g W tr e2) : SimR g W (tCons ta tr) fun r => e1 r >>= fun x => e2 r >>= fun xs => .ret (x :: xs) := by
  intro r Z σ H Q c a
  refine ha.first c a fun x vx Z1 H1 s1 r1 a1 => ?_
  refine hb.first (c.step s1) a1 fun xs vs Z3 H3 s3 r3 nd a3 => ?_
  refine a3 (vx :: vs) Z3 H3 (s1.trans s3) rfl (.cons (r1.step s3) (r3.back s1)) ⟨fun us e k ys hk hv => ?_, nd⟩
  subst e
  obtain ⟨p, ws, rfl, h1, _⟩ := r1
  obtain ⟨v, q1, q2⟩ := r3.get hk
  rw [hv] at q1; cases q1
  obtain ⟨p2, ws2, e2, _, _, _, _, h5, _⟩ := q2
  cases e2
  rw [h1] at h5; cases h5
theorem sim_tup {ta : TA} {e1 : Env → T (List D)} (ha : SimA g W ta e1) : SimE g W (tTup ta) fun r => e1 r >>= fun ds => lenT ds (.tup ds) := by
  intro r Z σ H Q c a
  refine ha.first c a fun x vx Z1 H1 s1 r1 a1 => ?_
  unfold lenT at a1
  split at a1
  · rename_i l
    have hl : vx.length ≤ sizeLine := by rw [r1.length, sizeLine_eq]; omega
    exact ⟨hl, fun p hp => Post.newT s1.pre (Post.shift s1 a1) r1 hl hp⟩
  · exact a1.elim
theorem sim_lst {ta : TA} {e1 : Env → T (List D)} (ha : SimA g W ta e1) : SimE g W (tLst ta) fun r => e1 r >>= fun ds => lenT ds (.new ds) := by
  intro r Z σ H Q c a
  refine ha.first c a fun x vx Z1 H1 s1 r1 a1 => ?_
  unfold lenT at a1
  split at a1
  · rename_i l
    have hl : vx.length ≤ sizeLine := by rw [r1.length, sizeLine_eq]; omega
    exact ⟨hl, fun p hp => Post.newL s1.pre (Post.shift s1 a1) r1 hl hp⟩
  · exact a1.elim
theorem sim_noPart : SimO g W tNoPart fun _ => .ret none := fun r Z σ H Q c a => a Z H (.refl c.pre) rfl
theorem sim_part (ha : SimE g W ta e1) : SimO g W (tPart ta) fun r => e1 r >>= partT := by
  intro r Z σ H Q c a
  refine ha.first c a fun x vx Z1 H1 s1 r1 a1 => ?_
  cases x <;> first
    | exact a1.elim
    | (cases r1; exact ⟨_, rfl, a1 Z1 H1 s1 rfl⟩)
theorem sim_slc {tl th : TO} {lo hi : Env → T (Option Int)} (ha : SimE g W ta e1) (hl : SimO g W tl lo) (hh : SimO g W th hi) :
    SimE g W (tSl (fun x lo hi H Q => rSlL g.K x lo hi H Q ∨ rSlA g.K x lo hi H Q) ta tl th) fun r => e1 r >>= fun x => lo r >>= fun l => hi r >>= fun h => slcT x l h := by
  intro r Z σ H Q c a
  refine ha.first c a fun x vx Z1 H1 s1 r1 a1 => ?_
  refine hl.first (c.step s1) a1 fun l Z2 H2 s2 a2 => ?_
  refine hh.first ((c.step s1).step s2) a2 fun h Z3 H3 s3 a3 => ?_
  exact slc_ok s3.pre ((r1.step s2).step s3) (post_shift ((s1.trans s2).trans s3) a3)
theorem sim_blt {rr : List V → Hp → VK → Prop} {f : List D → T D} {ta : TA} {e1 : Env → T (List D)} (h : BltS g rr f) (ha : SimR g W ta e1) : SimE g W (tCB rr ta) fun r => e1 r >>= fun ds => f ds := by
  intro r Z σ H Q c a
  refine ha.first c a fun x vx Z1 H1 s1 r1 _ a1 => ?_
  exact h _ Z1 H1 x vx Q _ s1.pre r1 (post_shift s1 a1)
theorem sim_isk {tn : String} {k : D → Option Bool} (o : KOk tn k) (ha : SimE g W ta e1) : SimE g W (tCB (rIsi g.K) (tCons ta (tCons (tC (.ty tn)) tNil))) fun r => e1 r >>= fun x => isKind k [x] := by
  intro r Z σ H Q c a
  refine ha.first c a fun x vx Z1 H1 s1 r1 a1 => ?_
  exact isKind_ok o s1.pre r1 (post_shift s1 a1)
/-- what a def promises -/
def spD (g : G) (call : Nat → List D → T D) (k : Nat) : Sp := fun vs H Q E => ∃ Z ds, Pre g Z H ∧ Reps g Z vs ds ∧ (call k ds).All (Post g Z H Q) (fun m c => ∀ Z' H', Step g Z H Z' H' → g.bud H' = m → E (.ref (g.cad c)) none H') (g.bud H)
def eW (g : G) (W : Nat → Hp → Prop) : XK := fun cls d H => ∃ c, cls = .ref (g.cad c) ∧ d = none ∧ W c H
theorem sim_call {call : Nat → List D → T D} {k : Nat} {ta : TA} {e1 : Env → T (List D)} (ha : SimA g W ta e1) : SimE g W (tCall (spD g call k) [] (eW g W) ta) fun r => e1 r >>= fun ds => call k ds := by
  intro r Z σ H Q c a
  refine ha.first c a fun x vx Z1 H1 s1 r1 a1 => ?_
  refine ⟨Z1, x, s1.pre, by rw [List.append_nil]; exact r1, All.mono a1 (fun d q => q.shift s1) fun c q Z' H' t e => ⟨c, rfl, rfl, q Z' H' t e⟩⟩

def tCallP (sp : Sp) (perm : List Nat) (E : XK) (t : TA) : TE := fun σ H Q => t σ H fun zs H2 => ∃ ys, permD perm zs = some ys ∧ sp ys H2 Q E
theorem permL_reps {Z : Hp} {vs : List V} {ds : List D} (r : Reps g Z vs ds) : ∀ {perm : List Nat} {es : List D}, permL perm ds = some es → ∃ us, permL perm vs = some us ∧ Reps g Z us es
  | [], es, h => by cases h; exact ⟨[], rfl, .nil⟩
  | i :: is, es, h => by
    unfold permL at h
    split at h
    · rename_i x ys h1 h2
      cases h
      obtain ⟨us, k1, k2⟩ := permL_reps r (perm := is) h2
      obtain ⟨v, k3, k4⟩ := r.get h1
      refine ⟨v :: us, ?_, .cons k4 k2⟩
      unfold permL
      rw [k3, k1]
    · cases h
theorem sim_callP {call : Nat → List D → T D} {k : Nat} {perm : List Nat} {ta : TA} {e1 : Env → T (List D)} (ha : SimA g W ta e1) : SimE g W (tCallP (spD g call k) perm (eW g W) ta) fun r => e1 r >>= fun ds => ofO (permD perm ds) >>= fun ds => call k ds := by
  intro r Z σ H Q c a
  refine ha.first c a fun x vx Z1 H1 s1 r1 a1 => ?_
  cases h : permD perm x with
  | none => rw [h] at a1; exact a1.elim
  | some es =>
    rw [h] at a1
    unfold permD at h
    split at h
    · rename_i hl
      obtain ⟨us, k1, k2⟩ := permL_reps r1 h
      refine ⟨us, (by unfold permD; rw [r1.length, if_pos hl]; exact k1), Z1, es, s1.pre, k2, All.mono a1 (fun d q => q.shift s1) fun c q Z' H' t e => ⟨c, rfl, rfl, q Z' H' t e⟩⟩
    · cases h
theorem sim_callM {call : Nat → List D → T D} {k m : Nat} {perm : List Nat} {ta tb : TA} {e1 e2 : Env → T (List D)} (ha : SimA g W ta e1) (hb : SimA g W tb e2) :
    SimE g W (fun σ H Q => ta σ H fun xs H1 => tb σ H1 fun zs H2 => ∃ ys, permM m perm xs zs = some ys ∧ spD g call k ys H2 Q (eW g W)) fun r => e1 r >>= fun ds => e2 r >>= fun es => ofO (permM m perm ds es) >>= fun ds => call k ds := by
  intro r Z σ H Q c a
  refine ha.first c a fun x vx Z1 H1 s1 r1 a1 => ?_
  refine hb.first (c.step s1) a1 fun y vy Z2 H2 s2 r2 a2 => ?_
  have r12 := (r1.mono s2.z).append r2
  cases h : permM m perm x y with
  | none => rw [h] at a2; exact a2.elim
  | some es =>
    rw [h] at a2
    unfold permM permD at h
    split at h
    rename_i hm
    split at h
    · rename_i hl
      obtain ⟨us, k1, k2⟩ := permL_reps r12 h
      have s12 := s1.trans s2
      refine ⟨us, (by unfold permM permD; rw [r1.length, if_pos hm, r12.length, if_pos hl]; exact k1), Z2, es, s2.pre, k2, All.mono a2 (fun d q => (q.shift s12)) fun c q Z' H' t e => ⟨c, rfl, rfl, ?_⟩⟩
      exact q Z' H' t e
    · cases h
    · cases h
theorem sim_op0 {o : O0} : SimE g W tDNewK fun _ => op0T o := by
  cases o
  intro r Z σ H Q c a p hp
  exact a _ (upd Z p (.dK [])) _ (.newZ c.pre hp) (bud_upd c.pre (c.pre.nF hp)) (.of (.emp upd_same))
theorem rev_reps {Z : Hp} {vs : List V} {ds : List D} (h : Reps g Z vs ds) : Reps g Z vs.reverse ds.reverse := by
  induction vs generalizing ds with
  | nil => cases h; exact .nil
  | cons v vs ih =>
    cases h with
    | cons r t =>
      rw [List.reverse_cons, List.reverse_cons]
      exact (ih t).append (.cons r .nil)
theorem sim_rev (ha : SimE g W ta e1) : SimE g W (tRevA g.K ta) fun r => e1 r >>= op1T .rev := by
  intro r Z σ H Q c a
  refine ha.first c a fun x vx Z1 H1 s1 r1 a1 => ?_
  have a1 : (op1T .rev x).All (Post g Z H Q) (PostE g Z1 H1 W) (g.bud H1) := a1
  cases x <;> first
    | exact a1.elim
    | skip
  · cases r1 with
    | tup h1 h2 h3 => exact ⟨_, _, rfl, .inr ⟨.of (s1.pre.zh _ _ h1), fun p hp => Post.newT s1.pre (Post.shift s1 a1) (rev_reps h3) (by rw [List.length_reverse]; exact h2) hp⟩⟩
  · cases r1 with
    | lst h1 h2 h3 => exact ⟨_, _, rfl, .inl ⟨.of (s1.pre.zh _ _ h1), fun p hp => Post.newL s1.pre (Post.shift s1 a1) (rev_reps h3) (by rw [List.length_reverse]; exact h2) hp⟩⟩
  · obtain ⟨p, vs, rfl, h1, h2, h3, h4, h5⟩ := r1
    exact ⟨_, _, rfl, .inl ⟨.of h1, fun p hp => Post.newL s1.pre (Post.shift s1 a1) (rev_reps h5) (by rw [List.length_reverse]; exact h2) hp⟩⟩
  · obtain ⟨p, vs, rfl, h1, h2, h3, h4, h5, h6⟩ := r1
    exact ⟨_, _, rfl, .inl ⟨.of h1, fun p hp => Post.newL s1.pre (Post.shift s1 a1) (rev_reps h6) (by rw [List.length_reverse]; exact h2) hp⟩⟩
/-! ### what is walked -/
theorem walkD_seq {Z : Hp} {a : Addr} {vs : List V} {ds : List D} (r : Reps g Z vs ds) : ((∀ H, Sub Z H → SqL g.K H a vs) → WalkD g (Itl g.K a) Z ds) ∧ ((∀ H, Sub Z H → SqT g.K H a vs) → WalkD g (Itt g.K a) Z ds) := by
  have key : ∀ (i : Nat) (Z1 H : Hp) (x : V) (H' : Hp), i < ds.length → Sub Z Z1 → Pre g Z1 H → YAt vs i H x H' → ∃ Z' d, ds[i]? = some d ∧ Step g Z1 H Z' H' ∧ g.bud H' = g.bud H ∧ Rep g Z' x d := fun i Z1 H x H' hi sz p y => by
    obtain ⟨e, y⟩ := y
    subst e
    obtain ⟨v, h1, h2⟩ := r.get (List.getElem?_eq_getElem hi)
    rw [h1] at y; cases y
    exact ⟨Z1, _, List.getElem?_eq_getElem hi, .refl p, rfl, h2.mono sz⟩
  refine ⟨fun h => ⟨_, _, by rw [← r.length]; exact walk_list, h, key⟩, fun h => ⟨_, _, by rw [← r.length]; exact walk_tup, h, key⟩⟩
theorem frozen_ok {Z H Z1 H1 : Hp} {v : V} {d : D} {ds : List D} (s : Step g Z H Z1 H1) (r : RepR g H Z1 H1 v d) (h : frozen d = some ds) :
    ∃ a vs Z2, v = .ref a ∧ Step g Z H Z2 H1 ∧ Reps g Z2 vs ds ∧ vs.length ≤ sizeLine ∧ (((∀ H, Sub Z2 H → SqL g.K H a vs) ∧ SqL g.K H1 a vs) ∨ ((∀ H, Sub Z2 H → SqT g.K H a vs) ∧ SqT g.K H1 a vs)) := by
  cases d <;> simp [frozen] at h
  · subst h
    cases r with
    | tup h1 h2 h3 => exact ⟨_, _, Z1, rfl, s, h3, h2, .inr ⟨fun H e => .of (e _ _ h1), .of (s.zh _ _ h1)⟩⟩
  · subst h
    cases r with
    | lst h1 h2 h3 => exact ⟨_, _, Z1, rfl, s, h3, h2, .inl ⟨fun H e => .of (e _ _ h1), .of (s.zh _ _ h1)⟩⟩
  · subst h
    cases r with
    | scr h1 h2 => exact ⟨_, _, Z1, rfl, s, Reps.ofInts _, by rw [List.length_map, sizeLine_eq]; omega, .inl ⟨fun H e => sq_sub e h1, sq_sub s.zh h1⟩⟩
  · subst h
    obtain ⟨a, vs, rfl, h1, h2, h3, h4, h5, h6⟩ := r
    exact ⟨a, vs, upd Z1 a (.lst vs), rfl, s.freeze h5 h1 h4 h3, h6.mono (sub_new h4), h2, .inl ⟨fun H e => .of (e _ _ upd_same), .of h1⟩⟩
/-- a list or a tuple, walked -/
def iSeq (K : PySem.W.Frag) (tl : TE) : TI := fun σ H R => tl σ H fun x H1 => ∃ a, x = .ref a ∧ (((∃ xs, SqL K H1 a xs) ∧ R (Itl K a) H1) ∨ ((∃ xs, SqT K H1 a xs) ∧ R (Itt K a) H1))
theorem pi_seq {C : Cx} {tg l : Expr} {tl : TE} (hl : PE C l tl) : PI C tg l (iSeq C.K tl) := by
  refine ⟨fun pins s σ H R I h => ?_⟩
  refine thn (hl.run pins s σ H _ I h) fun v s1 ⟨x, H1, I1, r1, q1⟩ => ?_
  obtain ⟨a, e, q⟩ := q1
  subst e
  cases r1
  rcases q with ⟨⟨xs, hq⟩, q⟩ | ⟨⟨xs, hq⟩, q⟩
  · obtain ⟨its, rv, p, hz⟩ := I1.list hq
    refine wpAny_pyIter_list p.isList ?_
    refine ⟨s1.heap.objs.size, [s1.heap.objs.size], _, _, H1, rfl, I1.kept (t' := s1.toks) fun b o e => Heap.get?_push_of_some _ e, turn_list a _, ⟨_, Heap.get?_push_size _ rfl, rfl, rfl⟩, fun b hb => ?_, q⟩
    have e : b = s1.heap.objs.size := by simpa using hb
    subst e
    exact I1.fpOk (Nat.le_refl _) (I1.hok.fresh (Nat.le_refl _))
  · obtain ⟨its, rv, p, hz⟩ := I1.tuple hq
    refine wpAny_pyIter_tuple (show s1.heap.IsTuple a its.toArray from p) ?_
    refine ⟨s1.heap.objs.size, [s1.heap.objs.size], _, _, H1, rfl, I1.kept (t' := s1.toks) fun b o e => Heap.get?_push_of_some _ e, turn_tuple a _, ⟨_, Heap.get?_push_size _ rfl, rfl, rfl⟩, fun b hb => ?_, q⟩
    have e : b = s1.heap.objs.size := by simpa using hb
    subst e
    exact I1.fpOk (Nat.le_refl _) (I1.hok.fresh (Nat.le_refl _))
theorem ofO_ok {α : Type} {o : Option α} {P : Nat → α → Prop} {E : Nat → Nat → Prop} {m : Nat} (h : (ofO o).All P E m) : ∃ x, o = some x ∧ P m x := by
  cases o with
  | none => exact h.elim
  | some x => exact ⟨x, rfl, h⟩
theorem simI_seq (ha : SimE g W ta e1) : SimI g W (iSeq g.K ta) fun r => e1 r >>= fun v => ofO (frozen v) := by
  intro r Z σ H R c a
  refine ha.first0 c a fun x vx Z1 H1 s1 r1 a1 => ?_
  obtain ⟨ds, e, a2⟩ := ofO_ok a1
  obtain ⟨p, vs, Z2, rfl, s2, h1, h2, h3⟩ := frozen_ok s1 r1 e
  have hl : ds.length ≤ sizeLine := by rw [← h1.length]; exact h2
  refine ⟨p, rfl, ?_⟩
  rcases h3 with ⟨h3, h4⟩ | ⟨h3, h4⟩
  · exact .inl ⟨⟨vs, h4⟩, a2 _ Z2 H1 s2 rfl ((walkD_seq h1).1 h3) hl⟩
  · exact .inr ⟨⟨vs, h4⟩, a2 _ Z2 H1 s2 rfl ((walkD_seq h1).2 h3) hl⟩
theorem rngI_ok {lo hi : Int} {P : Nat → List D → Prop} {E : Nat → Nat → Prop} {m : Nat} (h : (rngI lo hi).All P E m) : (-(2 ^ 62) ≤ lo ∧ lo < 2 ^ 62 ∧ -(2 ^ 62) ≤ hi ∧ hi < 2 ^ 62) ∧ (hi - lo).toNat ≤ sizeLine ∧ P m ((List.range (hi - lo).toNat).map fun k => .int (lo + (k : Nat))) := by
  unfold rngI at h
  split at h
  · rename_i q
    have q := of_decide_eq_true q
    exact ⟨⟨q.1, q.2.1, q.2.2.1, q.2.2.2.1⟩, by rw [← limLine]; exact q.2.2.2.2, h⟩
  · exact h.elim
theorem walkD_rng {Z : Hp} {lo : Int} {n : Nat} : WalkD g (Itr lo n) Z ((List.range n).map fun k => .int (lo + (k : Nat))) := by
  refine ⟨_, _, by rw [List.length_map, List.length_range]; exact walk_range, fun _ _ => trivial, fun i Z1 H x H' hi _ p y => ?_⟩
  obtain ⟨e, y⟩ := y
  subst e y
  rw [List.length_map, List.length_range] at hi
  refine ⟨Z1, _, ?_, .refl p, rfl, .int _⟩
  rw [List.getElem?_map, List.getElem?_range hi]
  rfl
theorem simI_cap {ti : TI} {e : Env → T (List D)} (h : SimI g W ti e) : SimI g W ti fun r => e r >>= fun ds => if ds.length ≤ lim then .ret ds else .bad := by
  intro r Z σ H R c a
  rw [all_bind] at a
  refine h r Z σ H R c (All.mono a (fun ds q => ?_) fun _ x => x)
  split at q
  · exact q
  · exact q.elim
theorem simI_rng1 (ha : SimE g W ta e1) : SimI g W (iRng1 (tCons ta tNil)) fun r => e1 r >>= rng1T := by
  intro r Z σ H R c a
  refine ha.first0 c a fun x vx Z1 H1 s1 r1 a1 => ?_
  cases x <;> first
    | exact a1.elim
    | skip
  cases r1
  rename_i j
  obtain ⟨b1, b2, a2⟩ := rngI_ok a1
  refine ⟨j, rfl, b1.2.2.1, b1.2.2.2, ?_⟩
  have e : (j - 0).toNat = j.toNat := by rw [Int.sub_zero]
  rw [e] at a2 b2
  exact a2 _ Z1 H1 s1 rfl walkD_rng (by rw [List.length_map, List.length_range]; exact b2)
theorem simI_rng2 (ha : SimE g W ta e1) (hb : SimE g W tb e2) : SimI g W (iRng2 (tCons ta (tCons tb tNil))) fun r => e1 r >>= fun x => e2 r >>= fun y => rng2T x y := by
  intro r Z σ H R c a
  refine ha.first c a fun x vx Z1 H1 s1 r1 a1 => ?_
  refine hb.first (c.step s1) a1 fun y vy Z2 H2 s2 r2 a2 => ?_
  cases x <;> first
    | exact a2.elim
    | skip
  cases y <;> first
    | exact a2.elim
    | skip
  cases r1
  cases r2
  rename_i i j
  obtain ⟨b1, b2, a3⟩ := rngI_ok a2
  refine ⟨i, j, rfl, b1, ?_⟩
  exact a3 _ Z2 H2 (s1.trans s2) rfl walkD_rng (by rw [List.length_map, List.length_range]; exact b2)
theorem pair_step {Z Z1 H H' : Hp} {v : V} {T : Addr} {x y : V} {d e : D} (p : Pre g Z1 H) (sz : Sub Z Z1) (h1 : v = .ref T) (h2 : H T = none) (h3 : H' = upd H T (.tup [x, y])) (rx : Rep g Z x d) (ry : Rep g Z y e) :
    ∃ Z', Step g Z1 H Z' H' ∧ g.bud H' = g.bud H ∧ Rep g Z' v (.tup [d, e]) := by
  subst h1 h3
  have sz' : Sub Z (upd Z1 T (.tup [x, y])) := fun a o h => sub_new (p.nZ h2) a o (sz a o h)
  exact ⟨_, .newZ p h2, bud_upd p (p.nF h2), .tup upd_same (by rw [sizeLine_eq]; show 2 ≤ 16777216; decide) (.cons (rx.mono sz') (.cons (ry.mono sz') .nil))⟩
theorem walk_zipT {K : PySem.W.Frag} {a b : Addr} {xs ys : List V} {n : Nat} (hn : n = min xs.length ys.length) : Walk (RZ.ItzT K a b) n (fun H => SqT K H a xs ∧ SqT K H b ys) (YPair (fun i => xs[i]?) (fun i => ys[i]?)) := by
  subst hn
  refine ⟨fun i _ hi q => ?_, fun _ q => ⟨xs, ys, q.1, q.2, by omega⟩, fun i H v H' _ q y => ?_⟩
  · have h1 : i < xs.length := by omega
    have h2 : i < ys.length := by omega
    exact ⟨xs, ys, xs[i], ys[i], q.1, q.2, by simp [h1], by simp [h2]⟩
  · obtain ⟨T, x, z, h1, h2, h3, h4, h5⟩ := y
    exact ⟨T, x, z, h1, h2, h3, h4 xs q.1, h5 ys q.2⟩
theorem zip_key {Z : Hp} {vs ws : List V} {ds es : List D} (r1 : Reps g Z vs ds) (r2 : Reps g Z ws es) : ∀ (i : Nat) (Z1 H : Hp) (x : V) (H' : Hp), i < ((ds.zip es).map fun p => D.tup [p.1, p.2]).length → Sub Z Z1 → Pre g Z1 H → YPair (fun i => vs[i]?) (fun i => ws[i]?) i H x H' →
    ∃ Z' d, ((ds.zip es).map fun p => D.tup [p.1, p.2])[i]? = some d ∧ Step g Z1 H Z' H' ∧ g.bud H' = g.bud H ∧ Rep g Z' x d := fun i Z1 H x H' hi sz p y => by
  obtain ⟨T, x1, x2, h1, h2, h3, h4, h5⟩ := y
  rw [List.length_map, List.length_zip] at hi
  have i1 : i < ds.length := by omega
  have i2 : i < es.length := by omega
  obtain ⟨v1, q1, k1⟩ := r1.get (List.getElem?_eq_getElem i1)
  obtain ⟨v2, q2, k2⟩ := r2.get (List.getElem?_eq_getElem i2)
  have h4 : vs[i]? = some x1 := h4
  have h5 : ws[i]? = some x2 := h5
  rw [q1] at h4; cases h4
  rw [q2] at h5; cases h5
  obtain ⟨Z', s, eb, rr⟩ := pair_step p sz h1 h2 h3 k1 k2
  refine ⟨Z', _, ?_, s, eb, rr⟩
  rw [List.getElem?_map, List.getElem?_zip_eq_some (z := (ds[i], es[i])).mpr ⟨List.getElem?_eq_getElem i1, List.getElem?_eq_getElem i2⟩]
  rfl
theorem frozenL_ok {Z H Z1 H1 : Hp} {v : V} {d : D} {ds : List D} (s : Step g Z H Z1 H1) (r : RepR g H Z1 H1 v d) (h : frozenL d = some ds) :
    ∃ a vs Z2, v = .ref a ∧ Step g Z H Z2 H1 ∧ Reps g Z2 vs ds ∧ vs.length ≤ sizeLine ∧ Z2 a = some (.lst vs) ∧ Sub Z1 Z2 := by
  cases d <;> simp [frozenL] at h
  · subst h
    cases r with
    | lst h1 h2 h3 => exact ⟨_, _, Z1, rfl, s, h3, h2, h1, fun _ _ e => e⟩
  · subst h
    obtain ⟨a, vs, rfl, h1, h2, h3, h4, h5, h6⟩ := r
    exact ⟨a, vs, upd Z1 a (.lst vs), rfl, s.freeze h5 h1 h4 h3, h6.mono (sub_new h4), h2, upd_same, sub_new h4⟩
theorem simI_zip (ha : SimE g W ta e1) (hb : SimE g W tb e2) : SimI g W (RZ.iZipA g.K (tCons ta (tCons tb tNil))) fun r => e1 r >>= fun x => e2 r >>= fun y => ofO (zipD x y) := by
  intro r Z σ H R c a
  refine ha.first0 c a fun x vx Z1 H1 s1 r1 a1 => ?_
  -- the first one, frozen at once
  have a1' := allE_shift s1 a1
  refine hb.first0 (c.step s1) a1' fun y vy Z2 H2 s2 r2 a2 => ?_
  obtain ⟨ds, e, a3⟩ := ofO_ok a2
  have st := s1.trans s2
  have rx := r1.step s2
  have ry := r2.back s1
  have fin : ∀ {xs ys : List D}, frozenL x = some xs → frozenL y = some ys → ds = (xs.zip ys).map (fun p => D.tup [p.1, p.2]) → ∃ a b vs ws, [vx, vy] = [.ref a, .ref b] ∧ ((SqL g.K H2 a vs ∧ SqL g.K H2 b ws ∧ R (Itz g.K a b) H2) ∨ (SqT g.K H2 a vs ∧ SqT g.K H2 b ws ∧ R (RZ.ItzT g.K a b) H2)) := fun {xs ys} f1 f2 ed => by
    subst ed
    obtain ⟨p, vs, Z3, rfl, s3, k1, k2, k3, k4⟩ := frozenL_ok st rx f1
    have ry3 : ∃ q ws Z4, vy = .ref q ∧ Step g Z H Z4 H2 ∧ Reps g Z4 ws ys ∧ ws.length ≤ sizeLine ∧ Z4 q = some (.lst ws) ∧ Sub Z3 Z4 := by
      cases y <;> simp [frozenL] at f2
      · subst f2
        cases ry with
        | lst h1 h2 h3 => exact ⟨_, _, Z3, rfl, s3, h3.mono k4, h2, k4 _ _ h1, fun _ _ e => e⟩
      · subst f2
        obtain ⟨q, ws, rfl, h1, h2, h3, h4, h5, h6⟩ := ry
        by_cases hz : Z3 q = none
        · exact ⟨q, ws, upd Z3 q (.lst ws), rfl, s3.freeze h5 h1 hz h3, (h6.mono k4).mono (sub_new hz), h2, upd_same, sub_new hz⟩
        · obtain ⟨u, hu⟩ : ∃ u, Z3 q = some u := by
            rcases none_or (H := Z3) (a := q) with e | e
            · exact absurd e hz
            · exact e
          have e2 := s3.zh _ _ hu
          rw [h1] at e2; cases e2
          exact ⟨q, ws, Z3, rfl, s3, h6.mono k4, h2, hu, fun _ _ e => e⟩
    obtain ⟨q, ws, Z4, rfl, s4, m1, m2, m3, m4⟩ := ry3
    refine ⟨p, q, vs, ws, rfl, .inl ⟨.of (s4.zh _ _ (m4 _ _ k3)), .of (s4.zh _ _ m3), a3 _ Z4 H2 s4 rfl ?_ ?_⟩⟩
    · refine ⟨_, _, walk_zip (n := _) (xs := vs) (ys := ws) ?_, fun H e => ⟨.of (e _ _ (m4 _ _ k3)), .of (e _ _ m3)⟩, zip_key (k1.mono m4) m1⟩
      rw [List.length_map, List.length_zip, k1.length, m1.length]
    · rw [List.length_map, List.length_zip, ← k1.length, ← m1.length]; omega
  unfold zipD at e
  split at e
  · cases e
    cases rx with
    | tup b1 b2 b3 =>
      cases ry with
      | tup d1 d2 d3 =>
        refine ⟨_, _, _, _, rfl, .inr ⟨.of (st.zh _ _ b1), .of (st.zh _ _ d1), a3 _ Z2 H2 st rfl ?_ ?_⟩⟩
        · refine ⟨_, _, walk_zipT (n := _) ?_, fun H e => ⟨.of (e _ _ b1), .of (e _ _ d1)⟩, zip_key b3 d3⟩
          rw [List.length_map, List.length_zip, b3.length, d3.length]
        · rw [List.length_map, List.length_zip, ← b3.length, ← d3.length]; omega
  · split at e
    · rename_i f1 f2
      cases e
      exact fin f1 f2 rfl
    · cases e
theorem enumD_get : ∀ (ds : List D) (j i : Nat) (d : D), ds[i]? = some d → (enumD j ds)[i]? = some (.tup [.int ((j + i : Nat) : Int), d])
  | [], _, _, _, h => by simp at h
  | d :: ds, j, 0, e, h => by
    simp at h
    subst h
    rfl
  | d :: ds, j, i + 1, e, h => by
    unfold enumD
    rw [List.getElem?_cons_succ] at h ⊢
    rw [enumD_get ds (j + 1) i e h, show j + 1 + i = j + (i + 1) by omega]
theorem enumD_length : ∀ (ds : List D) (j : Nat), (enumD j ds).length = ds.length
  | [], _ => rfl
  | d :: ds, j => congrArg Nat.succ (enumD_length ds (j + 1))
theorem simI_enum (ha : SimE g W ta e1) : SimI g W (iEnum g.K (tCons ta tNil)) fun r => e1 r >>= fun x => ofO ((frozenL x).map (enumD 0)) := by
  intro r Z σ H R c a
  refine ha.first0 c a fun x vx Z1 H1 s1 r1 a1 => ?_
  obtain ⟨ds, e, a2⟩ := ofO_ok a1
  obtain ⟨xs, f1, rfl⟩ := Option.map_eq_some_iff.mp e
  obtain ⟨p, vs, Z3, rfl, s3, k1, k2, k3, k4⟩ := frozenL_ok s1 r1 f1
  refine ⟨p, vs, rfl, .of (s3.zh _ _ k3), a2 _ Z3 H1 s3 rfl ?_ ?_⟩
  · refine ⟨_, _, by rw [enumD_length, ← k1.length]; exact walk_enum, fun H e => SqL.of (e _ _ k3), fun i Z1' H x H' hi sz p y => ?_⟩
    obtain ⟨T, x1, x2, h1, h2, h3, h4, h5⟩ := y
    rw [enumD_length] at hi
    obtain ⟨v2, q2, m2⟩ := k1.get (List.getElem?_eq_getElem hi)
    have h5 : vs[i]? = some x2 := h5
    rw [q2] at h5; cases h5
    cases (show some (V.int (i : Nat)) = some x1 from h4)
    obtain ⟨Z', s, eb, rr⟩ := pair_step p sz h1 h2 h3 (.int (i : Nat)) m2
    refine ⟨Z', _, enumD_get xs 0 i _ (List.getElem?_eq_getElem hi), s, eb, ?_⟩
    rw [Nat.zero_add]
    exact rr
  · rw [enumD_length, ← k1.length]; exact k2
end
end PV
end
section
set_option maxHeartbeats 4000000
/-! PvS4: targets, comprehensions, each expression by its term. -/
namespace PV
open PySem PySem.Spec PyProof.Rows L2
variable {g : G}

/-! ### targets -/
theorem wipe_get (σ : L2.St) (k : Nat) : ∀ vs : List Nat, (wipe σ vs)[k]? = if k ∈ vs then σ[k]?.map (fun _ => none) else σ[k]?
  | [] => by simp [wipe]
  | v :: vs => by
    unfold wipe
    rw [List.getElem?_set, wipe_get σ k vs]
    have hl := wipe_length σ vs
    by_cases h : v = k
    · subst h
      rw [if_pos rfl, if_pos List.mem_cons_self]
      by_cases hk : v < σ.length
      · rw [if_pos (by rw [hl]; exact hk), List.getElem?_eq_getElem hk]; rfl
      · rw [if_neg (by rw [hl]; exact hk), List.getElem?_eq_none (by omega)]; rfl
    · rw [if_neg h]
      by_cases hk : k ∈ vs
      · rw [if_pos hk, if_pos (List.mem_cons_of_mem _ hk)]
      · rw [if_neg hk, if_neg (by rw [List.mem_cons]; exact fun e => e.elim (fun e => h e.symm) hk)]
theorem wipeE_len (r : Env) : ∀ vs : List Nat, (wipeE r vs).length = r.length
  | [] => rfl
  | v :: vs => by unfold wipeE; rw [List.length_set, wipeE_len r vs]
theorem wipeE_get (r : Env) (k : Nat) : ∀ vs : List Nat, (wipeE r vs)[k]? = if k ∈ vs then r[k]?.map (fun _ => Sl.un) else r[k]?
  | [] => by simp [wipeE]
  | v :: vs => by
    unfold wipeE
    rw [List.getElem?_set, wipeE_get r k vs]
    have hl := wipeE_len r vs
    by_cases h : v = k
    · subst h
      rw [if_pos rfl, if_pos List.mem_cons_self]
      by_cases hk : v < r.length
      · rw [if_pos (by rw [hl]; exact hk), List.getElem?_eq_getElem hk]; rfl
      · rw [if_neg (by rw [hl]; exact hk), List.getElem?_eq_none (by omega)]; rfl
    · rw [if_neg h]
      by_cases hk : k ∈ vs
      · rw [if_pos hk, if_pos (List.mem_cons_of_mem _ hk)]
      · rw [if_neg hk, if_neg (by rw [List.mem_cons]; exact fun e => e.elim (fun e => h e.symm) hk)]
theorem wipe_set {σ : L2.St} {i : Nat} {v : Option V} {vs : List Nat} (h : i ∈ vs) : wipe (σ.set i v) vs = wipe σ vs := by
  apply List.ext_getElem?
  intro k
  rw [wipe_get, wipe_get, List.getElem?_set]
  by_cases hk : k ∈ vs
  · rw [if_pos hk, if_pos hk]
    by_cases e : i = k
    · subst e
      rw [if_pos rfl]
      by_cases hl : i < σ.length
      · rw [if_pos hl, List.getElem?_eq_getElem hl]; rfl
      · rw [if_neg hl, List.getElem?_eq_none (by omega)]
    · rw [if_neg e]
  · rw [if_neg hk, if_neg hk, if_neg fun e => hk (by rw [← e]; exact h)]
theorem wipe_wipe {σ : L2.St} {vs : List Nat} : wipe (wipe σ vs) vs = wipe σ vs := by
  apply List.ext_getElem?
  intro k
  rw [wipe_get, wipe_get]
  by_cases hk : k ∈ vs
  · rw [if_pos hk, if_pos hk, Option.map_map]; rfl
  · rw [if_neg hk, if_neg hk]
theorem Cfg.wipe {r : Env} {Z H : Hp} {σ : L2.St} (c : Cfg g r Z σ H) (vs : List Nat) : Cfg g (wipeE r vs) Z (L2.wipe σ vs) H := by
  refine ⟨c.pre, by rw [wipeE_len, wipe_length]; exact c.len, fun i s e => ?_⟩
  rw [wipeE_get] at e
  rw [wipe_get]
  by_cases hk : i ∈ vs
  · rw [if_pos hk] at e ⊢
    cases q : r[i]? with
    | none => rw [q] at e; cases e
    | some s0 =>
      rw [q] at e
      cases e
      obtain ⟨o, h1, _⟩ := c.slot i s0 q
      exact ⟨none, by rw [h1]; rfl, trivial⟩
  · rw [if_neg hk] at e ⊢
    exact c.slot i s e
theorem Cfg.set {r : Env} {Z H : Hp} {σ : L2.St} {i : Nat} {s : Sl} {o : Option V} (c : Cfg g r Z σ H) (h : SlotOk g Z H s o) : Cfg g (r.set i s) Z (σ.set i o) H := by
  refine ⟨c.pre, by rw [List.length_set, List.length_set]; exact c.len, fun k s' e => ?_⟩
  rw [List.getElem?_set] at e ⊢
  by_cases hk : i = k
  · subst hk
    rw [if_pos rfl] at e ⊢
    by_cases hl : i < r.length
    · rw [if_pos hl] at e
      cases e
      rw [if_pos (by rw [← c.len]; exact hl)]
      exact ⟨o, rfl, h⟩
    · rw [if_neg hl] at e; cases e
  · rw [if_neg hk] at e ⊢
    exact c.slot k s' e
def Tg.slots : Tg → List Nat
  | .nm i => [i]
  | .tp is => is
/-- one's own lists come from before -/
def OwnSub (r : Env) (σ : L2.St) (r2 : Env) (σ2 : L2.St) : Prop := ∀ (k : Nat) (xs : List D), r2[k]? = some (.own xs) → r[k]? = some (.own xs) ∧ σ2[k]? = σ[k]?
theorem ownSub_set {r : Env} {σ : L2.St} {i : Nat} {d : D} {o : Option V} : OwnSub r σ (r.set i (.val d)) (σ.set i o) := fun k xs h => by
  rw [List.getElem?_set] at h
  by_cases e : i = k
  · subst e
    rw [if_pos rfl] at h
    split at h <;> cases h
  · rw [if_neg e] at h
    exact ⟨h, List.getElem?_set_ne e⟩
/-- what a target's reading comes to -/
def SimG (g : G) (tg : Tg) (t : TG) : Prop := ∀ (v : V) (d : D) (r r2 : Env) (Z : Hp) (σ : L2.St) (H : Hp) (Q : L2.St → Hp → Prop), Cfg g r Z σ H → Rep g Z v d → bindTg tg d r = .ret r2 →
  (∀ σ2, Cfg g r2 Z σ2 H → (∀ vs : List Nat, (∀ i ∈ tg.slots, i ∈ vs) → wipe σ2 vs = wipe σ vs) → OwnSub r σ r2 σ2 → Q σ2 H) → t v σ H Q
theorem simG_nm {i : Nat} : SimG g (.nm i) (gName i) := by
  intro v d r r2 Z σ H Q c rv e q
  cases e
  exact q _ (c.set ⟨v, rfl, rv⟩) (fun vs h => wipe_set (h i (List.mem_singleton.mpr rfl))) ownSub_set
def gNames : List Nat → TGs
  | [] => gNil
  | i :: is => gCons (gName i) (gNames is)
theorem simG_names {Z H : Hp} {Q : L2.St → Hp → Prop} : ∀ (is : List Nat) (vs : List V) (ds : List D) (r r2 : Env) (σ : L2.St), Cfg g r Z σ H → Reps g Z vs ds → setAll is ds r = some r2 →
    (∀ σ2, Cfg g r2 Z σ2 H → (∀ ws : List Nat, (∀ i ∈ is, i ∈ ws) → wipe σ2 ws = wipe σ ws) → OwnSub r σ r2 σ2 → Q σ2 H) → gNames is vs σ H Q
  | [], _, [], r, r2, σ, c, .nil, e, q => by
    cases e
    exact ⟨rfl, q σ c (fun _ _ => rfl) fun _ _ h => ⟨h, rfl⟩⟩
  | [], _, _ :: _, _, _, _, _, _, e, _ => by cases e
  | _ :: _, _, [], _, _, _, _, _, e, _ => by cases e
  | i :: is, _, d :: ds, r, r2, σ, c, .cons rv rs, e, q => by
    refine ⟨_, _, rfl, ?_⟩
    refine simG_names is _ ds (r.set i (.val d)) r2 _ (c.set ⟨_, rfl, rv⟩) rs e fun σ2 c2 h os => q σ2 c2 (fun ws hw => ?_) fun k xs hk => ?_
    · rw [h ws fun j hj => hw j (List.mem_cons_of_mem _ hj)]
      exact wipe_set (hw i List.mem_cons_self)
    · obtain ⟨h1, h2⟩ := os k xs hk
      obtain ⟨h3, h4⟩ := ownSub_set k xs h1
      exact ⟨h3, h2.trans h4⟩
theorem setAll_len : ∀ {is : List Nat} {ds : List D} {r r2 : Env}, setAll is ds r = some r2 → ds.length = is.length
  | [], [], _, _, _ => rfl
  | [], _ :: _, _, _, e => by cases e
  | _ :: _, [], _, _, e => by cases e
  | _ :: is, _ :: ds, _, _, e => congrArg Nat.succ (setAll_len (is := is) (ds := ds) e)
theorem simG_tp {is : List Nat} : SimG g (.tp is) (gTup g.K is.length (gNames is)) := by
  intro v d r r2 Z σ H Q c rv e q
  cases d <;> first
    | (cases e; done)
    | skip
  cases rv with
  | tup h1 h2 h3 =>
    rename_i ds a vs
    have e : ofO (setAll is ds r) = .ret r2 := e
    cases e2 : setAll is ds r with
    | none => rw [e2] at e; cases e
    | some r3 =>
      rw [e2] at e
      cases e
      have hl : vs.length = is.length := by
        rw [h3.length]
        exact setAll_len e2
      exact ⟨a, vs, rfl, .of (c.pre.zh _ _ h1), hl, simG_names is vs ds r _ σ c h3 e2 q⟩

/-! ### comprehensions -/
section
variable {W : Nat → Hp → Prop}
theorem Step.setOwn {Z H Z' H' : Hp} (s : Step g Z H Z' H') {a : Addr} {ws vs : List V} (h : H a = none) (nf : ¬ g.F a) (hz : Z' a = none) (hq : H' a = some (.lst ws)) : Step g Z H Z' (upd H' a (.lst vs)) :=
  ⟨s.z, fun b u e => by rw [upd_ne (ne_of_none e hz)]; exact s.zh b u e, fun b u e f => by rw [upd_ne (ne_of_none e h)]; exact s.h b u e f, s.new, s.zf, good_upd s.pre nf (fun f z => by rw [hq] at z; cases z) fun _ z => by cases z⟩
theorem sim_comp {wi : TI} {ei : Env → T (List D)} {tg : Tg} {gt : TG} {tt : TT} {bt : Env → T Bool} {te : TE} {ee : Env → T D} {ws : List Nat} (hi : SimI g W wi ei) (hg : SimG g tg gt) (ht : SimB g (fun _ _ => False) tt bt) (he : SimE g (fun _ _ => False) te ee)
    (hin : ∀ i ∈ tg.slots, i ∈ ws) :
    SimE g W (tLc wi gt tt te ws) fun r => ei r >>= fun ds => noErr (compL (compF tg ws bt ee r) ds) >>= fun ys => .ret (.new ys) := by
  intro r Z σ H Q c a
  rw [all_bind] at a
  refine hi r Z σ H _ c (All.mono a (fun ds h1 J Z1 H1 s1 e1 wd hl => ?_) fun _ x => x)
  subst e1
  intro Dd hD
  obtain ⟨Gd, Y, wk, hGd, hY⟩ := wd
  have nf : ¬ g.F Dd := s1.pre.nF hD
  have zD : Z1 Dd = none := s1.pre.nZ hD
  have c1 := c.step s1
  rw [all_bind] at h1
  -- the turn's state
  refine lc_it wk (fun i H2 => ∃ Z2 acc ys, Step g Z1 H1 Z2 H2 ∧ Z2 Dd = none ∧ H2 Dd = some (.lst acc) ∧ Reps g Z2 acc ys ∧ acc.length ≤ i ∧
    (compL (compF tg ws bt ee r) (ds.drop i)).All (fun m rest => Post g Z H Q m (.new (ys ++ rest))) (fun _ _ => False) (g.bud H2)) ?_ ?_ ?_ ?_
  · refine ⟨Z1, [], [], .newH s1.pre hD, zD, upd_same, .nil, Nat.le_refl _, ?_⟩
    rw [List.drop_zero, bud_upd s1.pre nf]
    exact noErr_all h1
  · rintro i H2 _ ⟨Z2, acc, ys, s2, z2, h2, r2, l2, a2⟩
    exact hGd H2 fun b o e => s2.zh b o (s2.z b o e)
  · rintro i x H2 H3 hi ⟨Z2, acc, ys, s2, z2, h2, r2, l2, a2⟩ y
    obtain ⟨Z3, d, ed, s3, eb3, rd⟩ := hY i Z2 H2 x H3 hi s2.z s2.pre y
    rw [← eb3] at a2
    have s13 := s2.trans s3
    have h3 : H3 Dd = some (.lst acc) := s3.h _ _ h2 nf
    have z3 : Z3 Dd = none := none_step s3 h2 z2
    have hdrop : ds.drop i = d :: ds.drop (i + 1) := by
      have q := List.getElem?_eq_some_iff.mp ed
      obtain ⟨hlt, e⟩ := q
      rw [List.drop_eq_getElem_cons hlt, e]
    rw [hdrop] at a2
    unfold compL at a2
    rw [show compF tg ws bt ee r d = (bindTg tg d (wipeE r ws) >>= fun r2 => bt r2 >>= fun k => if k = true then ee r2 >>= fun y => fz y >>= fun y => .ret (some y) else .ret none) from rfl, bind_assoc'] at a2
    have cw : Cfg g (wipeE r ws) Z3 (wipe σ ws) H3 := (c1.step s13).wipe ws
    -- the target
    cases eb : bindTg tg d (wipeE r ws) with
    | err _ => rw [eb] at a2; exact a2.elim
    | bad => rw [eb] at a2; exact a2.elim
    | draw n k =>
      exfalso
      cases tg with
      | nm i => cases eb
      | tp is =>
        cases d <;> first
          | (cases eb; done)
          | (rename_i xs; have eb : ofO (setAll is xs (wipeE r ws)) = .draw n k := eb; cases q : setAll is xs (wipeE r ws) <;> rw [q] at eb <;> cases eb)
    | ret r3 =>
      rw [eb] at a2
      have a2 : (bt r3 >>= fun k => (if k = true then ee r3 >>= fun y => fz y >>= fun y => .ret (some y) else .ret none : T (Option D)) >>= fun o => compL (compF tg ws bt ee r) (ds.drop (i + 1)) >>= fun rr => .ret (match o with | some y => y :: rr | none => rr)).All (fun m rest => Post g Z H Q m (.new (ys ++ rest))) (fun _ _ => False) (g.bud H3) := by
        rw [← bind_assoc']
        exact a2
      refine hg x d _ r3 Z3 _ H3 _ cw rd eb fun σ2 c2 hw _ => ⟨by rw [hw ws hin, wipe_wipe], ?_⟩
      rw [all_bind] at a2
      refine ht r3 Z3 σ2 H3 _ c2 (All.mono a2 (fun k a3 Z4 H4 s4 e4 => ?_) fun _ x => x.elim)
      subst e4
      have h4 : H4 Dd = some (.lst acc) := s4.h _ _ h3 nf
      have z4 : Z4 Dd = none := none_step s4 h3 z3
      cases k with
      | false =>
        rw [if_neg Bool.false_ne_true] at a3
        show (if false = true then _ else _)
        rw [if_neg Bool.false_ne_true]
        refine ⟨Z4, acc, ys, s13.trans s4, z4, h4, r2.mono fun b o e => s4.z b o (s3.z b o e), by omega, ?_⟩
        have a3 : (compL (compF tg ws bt ee r) (ds.drop (i + 1)) >>= fun rr => .ret rr).All (fun m rest => Post g Z H Q m (.new (ys ++ rest))) (fun _ _ => False) (g.bud H4) := a3
        rw [show (fun rr : List D => T.ret rr) = T.ret from rfl, bind_ret] at a3
        exact a3
      | true =>
        rw [if_pos rfl] at a3
        show (if true = true then _ else _)
        rw [if_pos rfl]
        rw [bind_assoc', all_bind] at a3
        refine he r3 Z4 σ2 H4 _ (c2.step s4) (All.mono a3 (fun dy a4 vy Z5 H5 s5 e5 ry => ?_) fun _ x => x.elim)
        subst e5
        rw [bind_assoc', all_bind] at a4
        obtain ⟨y', Z6, a5, s6, sub6, ry6⟩ := fz_ok s5 ry a4
        have h5 : H5 Dd = some (.lst acc) := s5.h _ _ h4 nf
        have z6 : Z6 Dd = none := none_step s6 h4 z4
        refine ⟨acc, h5, Nat.lt_of_lt_of_le (Nat.lt_of_le_of_lt l2 hi) hl, Z6, acc ++ [vy], ys ++ [y'], ?_, z6, upd_same, ?_, by rw [List.length_append]; show acc.length + 1 ≤ i + 1; omega, ?_⟩
        · exact ((s13.trans s4).trans s6).setOwn hD nf z6 h5
        · exact (r2.mono fun b o e => s6.z b o (s4.z b o (s3.z b o e))).append (.cons ry6 .nil)
        · have a5 : (compL (compF tg ws bt ee r) (ds.drop (i + 1)) >>= fun rr => .ret (y' :: rr)).All (fun m rest => Post g Z H Q m (.new (ys ++ rest))) (fun _ _ => False) (g.bud H5) := a5
          rw [all_bind] at a5
          rw [bud_upd s5.pre nf]
          refine All.mono a5 (fun rest q => ?_) fun _ x => x
          rw [List.append_assoc]
          exact q
  · rintro H2 ⟨Z2, acc, ys, s2, z2, h2, r2, l2, a2⟩
    rw [List.drop_length] at a2
    have a2 : Post g Z H Q (g.bud H2) (.new (ys ++ [])) := a2
    rw [List.append_nil] at a2
    have s0 := s1.trans s2
    have hD0 : H Dd = none := by
      rcases none_or (H := H) (a := Dd) with e | ⟨u, e⟩
      · exact e
      · rw [s1.h _ _ e nf] at hD; cases hD
    exact a2 _ Z2 H2 s0 rfl ⟨Dd, acc, rfl, h2, Nat.le_trans l2 hl, nf, z2, hD0, r2⟩
end
end PV
end
section
set_option maxHeartbeats 4000000
/-! PvS5: each expression by its term. -/
namespace PV
open PySem PySem.Spec PyProof.Rows L2

/-- what a def that makes lambdas says -/
structure LamC (g : G) (n : Nat) (C : Cx) : Prop where
  room : Room (n + 2) C.A
  ex : ∃ c P, LamX.TabB g.base g.mg c P ∧ C.env.code = .ref c ∧ (P, C.env.qual ++ "<lambda>") ∈ g.T ∧ ∀ p ∈ g.T, p.1 = P → p.2 = C.env.qual ++ "<lambda>"
  h0 : ∀ a ps, g.Hs a = some (.tbl ps) → ∃ ps', C.H_0 a = some (.tbl ps')
/-- _law_caught as it stands -/
structure CauF (g : G) (nx : Nat) : Prop where
  ex : ∃ (ad CS : Addr) (k : Nat) (p1 p2 p3 p4 p5 p6 p7 p8 p9 p10 p11 p12 p13 p14 : Pos) (pg : Arguments) (sg : Scope) (dV kV doc pm cdv ct oc : Value) (an od : Option Addr) (osl : Array (Option Value)),
    g.mg "_law_caught" = some (.ref ad) ∧ PySem.W.keepIn g.K (.ref ad) = true ∧
    g.K.lookup ad = some ⟨oc, od, .func (PySem.W.fnOf "_law_caught" "_law_caught" pg (caughtB p1 p2 p3 p4 p5 p6 p7 p8 p9 p10 p11 p12 p13 p14 k) sg dV kV doc pm an cdv ct), osl⟩ ∧ PySem.W.codeIn g.K cdv "_law_caught" = true ∧
    Binds g.K (PySem.W.fnOf "_law_caught" "_law_caught" pg (caughtB p1 p2 p3 p4 p5 p6 p7 p8 p9 p10 p11 p12 p13 p14 k) sg dV kV doc pm an cdv ct) ["work"] [] ∧ FnScope NC ["work"] sg ∧ Vis sg "work" ∧
    sg.names.lookup ("HoweverError" : Str) = some .globalImplicit ∧ sg.names.lookup ("caught" : Str) = some .local ∧ sg.names.lookup ("error" : Str) = some .local ∧ g.mg "HoweverError" = some (.ref CS) ∧
    ∀ k, k < nx → PySem.W.exmOne g.K (.ref (g.cad k)) (.ref CS) = some true
/-- isinstance of an own class -/
structure ExsF (g : G) (nx k : Nat) (y : Str) : Prop where
  mg : g.mg y = some (.ref (g.cad k))
  ki : ∀ c, c < nx → PySem.W.kitOne g.K (.ref (g.cad c)) (.ref (g.cad k)) = some (decide (c = k))
  kn : PySem.W.kitOne g.K (.type "NoneType") (.ref (g.cad k)) = some false
  ec : ∀ c, c < nx → ExcC g.K (g.cad c)
structure CtxOk (g : G) (ck : Ck) (sc : Scope) (W : Nat → Hp → Prop) (n : Nat) (C : Cx) : Prop where
  prog : C.prog = g.P
  w : C.w = g.w
  K : C.K = g.K
  mg : C.mg = g.mg
  base : C.base = g.base
  N : C.N = ck.N
  lam : ck.lam = some sc → LamC g n C
  sc : C.env.scope = sc
  calm : C.calm = true
  room : Room n C.A
  tk : Takes C (fun cls d _ H => ∃ c, cls = .ref (g.cad c) ∧ d = none ∧ W c H)
/-- a def that keeps to what it computes -/
def FnE (g : G) (call : Nat → List D → T D) (n k : Nat) (x : Str) (m : Nat) : Prop :=
  ∃ (ad : Addr) (fd : FuncData) (ps : List Str), g.mg x = some (.ref ad) ∧ PySem.W.keepIn g.K (.ref ad) = true ∧ Binds g.K fd ps [] ∧ ps.length = m ∧ FnOk g.P g.w g.K g.mg g.base (L2.CX g.P g.w) n ad fd ps (spD g call k)
/-- the same, called by keywords alone -/
def FnK (g : G) (call : Nat → List D → T D) (n k : Nat) (x : Str) (ks : List Str) (perm : List Nat) : Prop :=
  ∃ (ad : Addr) (fd : FuncData) (ps : List Str), g.mg x = some (.ref ad) ∧ PySem.W.keepIn g.K (.ref ad) = true ∧ FnOk g.P g.w g.K g.mg g.base (L2.CX g.P g.w) n ad fd ps (spD g call k) ∧
    ∀ (s : Shared) (ws ys : List Value), g.K.In s.heap → ws.length = ks.length → permL perm ws = some ys → BindsTo s fd ⟨[], ks.zip ws⟩ (ps.zip ys)
/-- the same, some positional, some by keywords -/
def FnM (g : G) (call : Nat → List D → T D) (n k : Nat) (x : Str) (m : Nat) (ks : List Str) (perm : List Nat) : Prop :=
  ∃ (ad : Addr) (fd : FuncData) (ps : List Str), g.mg x = some (.ref ad) ∧ PySem.W.keepIn g.K (.ref ad) = true ∧ FnOk g.P g.w g.K g.mg g.base (L2.CX g.P g.w) n ad fd ps (spD g call k) ∧
    ∀ (s : Shared) (us ws ys : List Value), g.K.In s.heap → us.length = m → ws.length = ks.length → permL perm (us ++ ws) = some ys → BindsTo s fd ⟨us, ks.zip ws⟩ (ps.zip ys)
def freeNames : List Str := ["abs", "max", "min", "len", "sum", "all", "any", "sorted", "list", "tuple", "int", "bool", "str", "isinstance", "range", "zip", "enumerate"]
structure Facts (g : G) (ck : Ck) (call : Nat → List D → T D) (n : Nat) : Prop where
  nd : ck.N.Nodup
  fn : ∀ k x m, (k, x, m) ∈ ck.fns → FnE g call n k x m
  kw : ∀ k x ks perm, (k, x, ks, perm) ∈ ck.kws → FnK g call n k x ks perm ∧ perm.length = ks.length
  mw : ∀ k x m ks perm, (k, x, m, ks, perm) ∈ ck.mws → FnM g call n k x m ks perm ∧ perm.length = m + ks.length
  bf : ∀ x id, (x, id) ∈ ck.bfs → g.mg x = some (.builtin id)
  con : ∀ x i, (x, i) ∈ ck.cons → ∃ t, g.mg x = some (.int i t)
  free : ∀ x ∈ freeNames, g.mg x = none
  cau : ck.lam ≠ none → CauF g ck.nx
  exs : ∀ k y, (k, y) ∈ ck.exs → ExsF g ck.nx k y
section
variable {g : G} {ck : Ck} {sc : Scope} {W : Nat → Hp → Prop} {n : Nat} {C : Cx} {call : Nat → List D → T D}
theorem plain_star {e : Expr} {es : List Expr} {env : PySem.Env} (h : plainE e = true) : starEach (e :: es) env = (false, eval e env) :: starEach es env := by
  cases e <;> first
    | rfl
    | exact (Bool.false_ne_true h).elim
theorem plain_any {pos : Pos} {env : PySem.Env} : ∀ {es : List Expr}, es.all plainE = true → (backTo pos (starEach es env)).any (·.1) = false
  | [], _ => rfl
  | e :: es, h => by
    rw [List.all_cons, Bool.and_eq_true] at h
    rw [plain_star h.1]
    exact plain_any (es := es) h.2
theorem glB_ok {x : Str} (h : glB sc x = true) : sc.names.lookup x = some .globalImplicit ∧ (x == ("__debug__" : Str)) = false ∧ x ≠ ("__name__" : Str) := by
  unfold glB at h
  simp only [Bool.and_eq_true, decide_eq_true_eq, Bool.not_eq_true'] at h
  exact ⟨h.1.1, h.1.2, h.2⟩
theorem CtxOk.gl (c : CtxOk g ck sc W n C) {x : Str} (h : glB sc x = true) : Gl C x := by
  show C.env.scope.names.lookup x = _
  rw [c.sc]
  exact (glB_ok h).1
theorem CtxOk.units (c : CtxOk g ck sc W n C) : C.A.units + 64 < cLine := c.room.units
theorem CtxOk.free (c : CtxOk g ck sc W n C) (F : Facts g ck call n) {x : Str} (h : x ∈ freeNames) : C.mg x = none := by rw [c.mg]; exact F.free x h

/-! ### operators -/
def rB (g : G) : BOp → R2
  | .add => fun x y H Q => rI0 (fun i j => .int (i + j)) x y H Q ∨ rCatA g.K x y H Q ∨ rCat x y H Q
  | .sub => rI0 fun i j => .int (i - j)
  | .mul => fun x y H Q => rI CMul (fun i j => .int (i * j)) x y H Q ∨ rRepT g.K x y H Q ∨ rRep x y H Q
  | .fdiv => rI CDivW fun i j => .int (i / j)
  | .mod => rI (fun _ j => 0 < j) fun i j => .int (i % j)
  | .pow => rI CPow fun i j => .int (i ^ j.toNat)
theorem rB_s : ∀ op, OpS g (rB g op) (binT op)
  | .add => ops_add | .sub => ops_sub | .mul => ops_mul | .fdiv => ops_fdiv | .mod => ops_mod | .pow => ops_pow
theorem rB_o (c : CtxOk g ck sc W n C) {op : BOp} {o : Operator} (h : bopB op o = true) : OpR C (binaryOp o) (rB g op) := by
  cases op <;> cases o <;> first
    | exact (Bool.false_ne_true h).elim
    | skip
  · have e1 : OpR C (binaryOp .Add) (rCatA g.K) := by rw [← c.K]; exact op_catA
    exact op_add.or (e1.or op_cat)
  · exact op_sub
  · have e1 : OpR C (binaryOp .Mult) (rRepT g.K) := by rw [← c.K]; exact op_repT
    exact op_mul.or (e1.or op_rep)
  · exact op_fdivW
  · exact op_mod
  · exact op_pow
def rC (g : G) : COp → R2
  | .lt => fun x y H Q => rI0 (fun i j => .bl (decide (i < j))) x y H Q ∨ rLtT g.K x y H Q
  | .le => rI0 fun i j => .bl (decide (i ≤ j))
  | .gt => rI0 fun i j => .bl (decide (j < i))
  | .ge => rI0 fun i j => .bl (decide (j ≤ i))
  | .eq => rEqD g.K
  | .ne => rNeD g.K
  | .is => fun x y H Q => (y = .non ∧ Q (.bl (decide (x = .non))) H) ∨ rIsB x y H Q
  | .isn => fun x y H Q => (y = .non ∧ Q (.bl (!decide (x = .non))) H) ∨ rNotB x y H Q
  | .inn => rIn g.K false
  | .nin => rIn g.K true
theorem rC_s : ∀ op, CmpS g (rC g op) (cmpT op)
  | .lt => cmp_lt | .le => cmp_le | .gt => cmp_gt | .ge => cmp_ge | .eq => cmp_eq | .ne => cmp_ne | .is => cmp_is | .isn => cmp_isn | .inn => cmp_inn | .nin => cmp_nin
theorem rC_o (c : CtxOk g ck sc W n C) {op : COp} {o : CmpOp} (h : copB op o = true) : OpR C (compareOp o) (rC g op) := by
  cases op <;> cases o <;> first
    | exact (Bool.false_ne_true h).elim
    | skip
  · have e1 : OpR C (compareOp .Lt) (rLtT g.K) := by rw [← c.K]; exact op_ltT c.room.units0
    exact op_lt.or e1
  · exact op_le
  · exact op_gt
  · exact op_ge
  · show OpR C (compareOp .Eq) (rEqD g.K)
    rw [← c.K]; exact op_eqD c.units
  · show OpR C (compareOp .NotEq) (rNeD g.K)
    rw [← c.K]; exact op_neD c.units
  · exact op_isN.or op_isBl
  · exact op_notN.or op_notBl
  · show OpR C (compareOp .In) (rIn g.K false)
    rw [← c.K]; exact op_in_seq
  · show OpR C (compareOp .NotIn) (rIn g.K true)
    rw [← c.K]; exact op_notIn_seq

/-! ### built-in calls -/
def rF (g : G) : Blt → List V → Hp → VK → Prop
  | .abs => fun xs H Q => ∃ i, xs = [.int i] ∧ Q (.int (if i < 0 then -i else i)) H
  | .max => fun xs H Q => (∃ i j, xs = [.int i, .int j] ∧ Q (.int (if j > i then j else i)) H) ∨ rMax g.K xs H Q ∨ rMaxT g.K xs H Q
  | .min => fun xs H Q => (∃ i j, xs = [.int i, .int j] ∧ Q (.int (if j < i then j else i)) H) ∨ rMin g.K xs H Q ∨ rMinT g.K xs H Q
  | .len => fun xs H Q => ∃ p ys, xs = [.ref p] ∧ (SqL g.K H p ys ∨ SqT g.K H p ys) ∧ Q (.int ys.length) H
  | .sum => fun xs H Q => rSum g.K xs H Q ∨ rSumT g.K xs H Q
  | .all => rAll g.K
  | .any => rAny g.K
  | .sorted => rSorted g.K
  | .list => fun xs H Q => ∃ p ys, xs = [.ref p] ∧ (SqL g.K H p ys ∨ SqT g.K H p ys) ∧ ∀ l, H l = none → Q (.ref l) (upd H l (.lst ys))
  | .tuple => fun xs H Q => ∃ p ys, xs = [.ref p] ∧ ((SqL g.K H p ys ∧ ∀ l, H l = none → Q (.ref l) (upd H l (.tup ys))) ∨ (SqT g.K H p ys ∧ Q (.ref p) H))
  | .int => fun xs H Q => (∃ i, xs = [.int i] ∧ Q (.int i) H) ∨ ∃ k, xs = [.bl k] ∧ Q (.int (if k then 1 else 0)) H
  | .gcd => rGcd
  | .comb => rComb
  | .str => fun xs H Q => ∃ i : Int, xs = [.int i] ∧ i.natAbs.log2 < 1920 ∧ Q (.str (toString i)) H
  | _ => fun _ _ _ => False
theorem rF_s {f : Blt} (h : kindName f = none) : BltS g (rF g f) (bltT f) := by
  cases f <;> first
    | (cases h; done)
    | skip
  · exact blt_abs
  · exact blt_max
  · exact blt_min
  · exact blt_len
  · exact blt_sum
  · exact blt_all
  · exact blt_any
  · exact blt_sorted
  · exact blt_list
  · exact blt_tuple
  · exact blt_int
  · exact blt_gcd
  · exact blt_comb
  · exact blt_str
/-- f(..), f a built-in of the ones above -/
theorem pe_blt (c : CtxOk g ck sc W n C) (F : Facts g ck call n) {f : Blt} (hk : kindName f = none) {x : Str} (hx : x = bltName f) (hg : glB sc x = true) {p pos : Pos} {e : Expr} {es : List Expr} {t : TA} (ha : PA C (e :: es) t) (hp : (e :: es).all plainE = true) (hm : modB ck f = true) :
    PE C (.Call (.Name x p) (e :: es) [] pos) (tCB (rF g f) t) := by
  have hp' := hp
  rw [List.all_cons, Bool.and_eq_true] at hp'
  have he : starEach (e :: es) C.env = (false, eval e C.env) :: starEach es C.env := plain_star hp'.1
  have hpl : (backTo pos (starEach es C.env)).any (·.1) = false := plain_any hp'.2
  obtain ⟨g1, g2, g3⟩ := glB_ok hg
  have gl := c.gl hg
  have q : ∀ {a b : Prop}, a → b → a := fun h _ => h
  subst hx
  cases f <;> first
    | (cases hk; done)
    | skip
  · exact pe_callB call_abs gl (c.free F (by decide +kernel)) (by decide +kernel) ha g3 g2 he hpl
  · have e1 : CallR C (.builtin "max") (rMax g.K) := by rw [← c.K]; exact cr_max c.calm
    have e2 : CallR C (.builtin "max") (rMaxT g.K) := by rw [← c.K]; exact cr_maxT c.calm
    exact pe_callB ((call_max2 c.calm).or (e1.or e2)) gl (c.free F (by decide +kernel)) (by decide +kernel) ha g3 g2 he hpl
  · have e1 : CallR C (.builtin "min") (rMin g.K) := by rw [← c.K]; exact cr_min c.calm
    have e2 : CallR C (.builtin "min") (rMinT g.K) := by rw [← c.K]; exact cr_minT c.calm
    exact pe_callB ((call_min2 c.calm).or (e1.or e2)) gl (c.free F (by decide +kernel)) (by decide +kernel) ha g3 g2 he hpl
  · have e1 : CallR C (.builtin "len") (rF g .len) := by show CallR C _ (fun xs H Q => ∃ p ys, xs = [.ref p] ∧ (SqL g.K H p ys ∨ SqT g.K H p ys) ∧ Q (.int ys.length) H); rw [← c.K]; exact call_len_seq
    exact pe_callB e1 gl (c.free F (by decide +kernel)) (by decide +kernel) ha g3 g2 he hpl
  · have e1 : CallR C (.builtin "sum") (rSum g.K) := by rw [← c.K]; exact cr_sum c.calm
    have e2 : CallR C (.builtin "sum") (rSumT g.K) := by rw [← c.K]; exact cr_sumT c.calm
    exact pe_callB (e1.or e2) gl (c.free F (by decide +kernel)) (by decide +kernel) ha g3 g2 he hpl
  · have e1 : CallR C (.builtin "all") (rAll g.K) := by rw [← c.K]; exact cr_all c.calm
    exact pe_callB e1 gl (c.free F (by decide +kernel)) (by decide +kernel) ha g3 g2 he hpl
  · have e1 : CallR C (.builtin "any") (rAny g.K) := by rw [← c.K]; exact cr_any c.calm
    exact pe_callB e1 gl (c.free F (by decide +kernel)) (by decide +kernel) ha g3 g2 he hpl
  · have e1 : CallR C (.builtin "sorted") (rSorted g.K) := by rw [← c.K]; exact cr_sorted
    exact pe_callB e1 gl (c.free F (by decide +kernel)) (by decide +kernel) ha g3 g2 he hpl
  · have e1 : CallR C (.type "list") (rF g .list) := by show CallR C _ (fun xs H Q => ∃ p ys, xs = [.ref p] ∧ (SqL g.K H p ys ∨ SqT g.K H p ys) ∧ ∀ l, H l = none → Q (.ref l) (upd H l (.lst ys))); rw [← c.K]; exact call_list_of
    exact pe_callTy e1 gl (c.free F (by decide +kernel)) (by decide +kernel) ha g3 g2 he hpl
  · have e1 : CallR C (.type "tuple") (rF g .tuple) := by show CallR C _ (fun xs H Q => ∃ p ys, xs = [.ref p] ∧ ((SqL g.K H p ys ∧ ∀ l, H l = none → Q (.ref l) (upd H l (.tup ys))) ∨ (SqT g.K H p ys ∧ Q (.ref p) H))); rw [← c.K]; exact call_tuple_of
    exact pe_callTy e1 gl (c.free F (by decide +kernel)) (by decide +kernel) ha g3 g2 he hpl
  · exact pe_callTy call_int1 gl (c.free F (by decide +kernel)) (by decide +kernel) ha g3 g2 he hpl
  · exact pe_callBfun cr_gcd gl (by rw [c.mg]; exact F.bf _ _ (of_decide_eq_true hm)) ha g2 he hpl
  · exact pe_callBfun cr_comb gl (by rw [c.mg]; exact F.bf _ _ (of_decide_eq_true hm)) ha g2 he hpl
  · exact pe_callTy call_str_int gl (c.free F (by decide +kernel)) (by decide +kernel) ha g3 g2 he hpl
theorem kind_ok {f : Blt} {k : Str} (h : kindName f = some k) : ∃ (tn : String) (kk : D → Option Bool), bltT f = isKind kk ∧ KOk tn kk ∧ bootBuiltins k = some (.type tn) ∧ k ∈ freeNames ∧ bltName f = "isinstance" ∧ k ≠ ("__name__" : Str) := by
  cases f <;> first
    | (cases h; done)
    | skip
  · cases h; exact ⟨"int", kInt, rfl, kok_int, by decide +kernel, by decide +kernel, rfl, by decide +kernel⟩
  · cases h; exact ⟨"bool", kBool, rfl, kok_bool, by decide +kernel, by decide +kernel, rfl, by decide +kernel⟩
  · cases h; exact ⟨"tuple", kTup, rfl, kok_tup, by decide +kernel, by decide +kernel, rfl, by decide +kernel⟩
  · cases h; exact ⟨"list", kLst, rfl, kok_lst, by decide +kernel, by decide +kernel, rfl, by decide +kernel⟩
  · cases h; exact ⟨"str", kStr, rfl, kok_str, by decide +kernel, by decide +kernel, rfl, by decide +kernel⟩
theorem pe_kind (c : CtxOk g ck sc W n C) (F : Facts g ck call n) {f : Blt} {k : Str} (hk : kindName f = some k) {x y : Str} (hx : x = bltName f) (hg : glB sc x = true) (hy : y = k) (hgy : glB sc y = true) {p pos p2 : Pos} {e : Expr} {t : TE} (he : PE C e t) (hp : plainE e = true) :
    ∃ (tn : String) (kk : D → Option Bool), bltT f = isKind kk ∧ KOk tn kk ∧ PE C (.Call (.Name x p) [e, .Name y p2] [] pos) (tCB (rIsi g.K) (tCons t (tCons (tC (.ty tn)) tNil))) := by
  obtain ⟨tn, kk, h1, h2, h3, h4, h5, h6⟩ := kind_ok hk
  refine ⟨tn, kk, h1, h2, ?_⟩
  rw [h5] at hx
  subst hx
  subst hy
  have e1 : CallR C (.builtin "isinstance") (rIsi g.K) := by rw [← c.K]; exact call_isi
  have hy : PE C (.Name y p2) (tC (.ty tn)) := pe_bltn (c.gl hgy) (c.free F h4) h3 rfl h6 (glB_ok hgy).2.1
  exact pe_callB e1 (c.gl hg) (c.free F (by decide +kernel)) (by decide +kernel) (pa_cons he (pa_cons hy pa_nil) (plain_star hp)) (glB_ok hg).2.2 (glB_ok hg).2.1 (plain_star hp) rfl
theorem pe_isx (c : CtxOk g ck sc W n C) (F : Facts g ck call n) {k : Nat} {x y : Str} (hx : x = "isinstance") (hg : glB sc x = true) (hy : (k, y) ∈ ck.exs) (hgy : glB sc y = true) {p pos p2 : Pos} {e : Expr} {t : TE} (he : PE C e t) (hp : plainE e = true) :
    PE C (.Call (.Name x p) [e, .Name y p2] [] pos) (tCB (fun xs H Q => rIsi g.K xs H Q ∨ rIsX g.K xs H Q) (tCons t (tCons (tC (.ref (g.cad k))) tNil))) := by
  subst hx
  have e1 : CallR C (.builtin "isinstance") (rIsi g.K) := by rw [← c.K]; exact call_isi
  have e2 : CallR C (.builtin "isinstance") (rIsX g.K) := by rw [← c.K]; exact call_isX
  have hy2 : PE C (.Name y p2) (tC (.ref (g.cad k))) := pe_glob (c.gl hgy) (by rw [c.mg]; exact (F.exs k y hy).mg) rfl (glB_ok hgy).2.1
  exact pe_callB (e1.or e2) (c.gl hg) (c.free F (by decide +kernel)) (by decide +kernel) (pa_cons he (pa_cons hy2 pa_nil) (plain_star hp)) (glB_ok hg).2.2 (glB_ok hg).2.1 (plain_star hp) rfl
theorem sim_isx {nx k : Nat} {y : Str} (F : ExsF g nx k y) {ta : TE} {e1 : Env → T D} (ha : SimE g W ta e1) : SimE g W (tCB (fun xs H Q => rIsi g.K xs H Q ∨ rIsX g.K xs H Q) (tCons ta (tCons (tC (.ref (g.cad k))) tNil))) fun r => e1 r >>= isxT nx k := by
  intro r Z σ H Q c a
  refine ha.first c a fun x vx Z1 H1 s1 r1 a1 => ?_
  unfold isxT at a1
  split at a1
  · rename_i cc
    split at a1
    · rename_i hc
      cases r1 with
      | exc hz => exact .inr ⟨_, _, _, _, rfl, s1.pre.zh _ _ hz, F.ec cc hc, F.ki cc hc, a1 _ Z1 H1 s1 rfl (.of (.bl _))⟩
    · exact a1.elim
  · cases r1
    exact .inl ⟨_, _, _, _, _, rfl, .own _, .base .non, F.kn, a1 _ Z1 H1 s1 rfl (.of (.bl _))⟩
  · exact a1.elim
theorem sim_caught {nx : Nat} {CS : Addr} {H0 : Hp} {f : Env → T D} (hT : g.T ≠ []) (hx : ∀ k, k < nx → PySem.W.exmOne g.K (.ref (g.cad k)) (.ref CS) = some true) (h0 : ∀ a ps, g.Hs a = some (.tbl ps) → ∃ ps', H0 a = some (.tbl ps'))
    {t : XK → TE} (ht : ∀ E : XK, SimE g (fun c H' => E (.ref (g.cad c)) none H') (t E) f) : SimE g W (tLamN H0 g.T (TKeep g.K CS) t) fun r => catchT nx (f r) := by
  intro r Z σ H Q cfg a
  refine ⟨g.gtb H cfg.pre.good, fun H1 eN nn hh tb => ?_⟩
  obtain ⟨st, eb⟩ := Step.lam hT cfg.pre eN tb nn fun a ps e => by obtain ⟨q, e1⟩ := h0 a ps e; exact hh a q e1
  refine ht _ r Z σ H1 _ (cfg.step st) ?_
  rw [eb]
  refine All.mono (catch_all a) (fun d q v Z' H' s e rr => q .non Z' H' (st.trans s) e (.of .non)) fun cc q Z' H' s e => ⟨rfl, hx cc q.1, fun ad hn => ?_⟩
  exact q.2 (.ref ad) (upd Z' ad (ExV (.ref (g.cad cc)) ad)) _ ((st.trans s).trans (.newZ s.pre hn fun _ z => by unfold ExV at z; cases z)) ((bud_upd s.pre (s.pre.nF hn)).trans e) (.of (.exc upd_same))
theorem pe_fn (c : CtxOk g ck sc W n C) (F : Facts g ck call n) {k m : Nat} {x : Str} (hf : (k, x, m) ∈ ck.fns) (hg : glB sc x = true) {p pos : Pos} {e : Expr} {es : List Expr} {t : TA} (ha : PA C (e :: es) t) (hp : (e :: es).all plainE = true) :
    PE C (.Call (.Name x p) (e :: es) [] pos) (tCall (spD g call k) [] (eW g W) t) := by
  obtain ⟨ad, fd, ps, h1, h2, h3, h4, h5⟩ := F.fn k x m hf
  have hp' := hp
  rw [List.all_cons, Bool.and_eq_true] at hp'
  have F' : FnOk C.prog C.w C.K C.mg C.base (L2.CX C.prog C.w) n ad fd ps (spD g call k) := by
    rw [c.prog, c.w, c.K, c.mg, c.base]
    exact h5
  exact pe_call (ds := []) F' c.room (c.gl hg) (by rw [c.mg]; exact h1) (by rw [c.K]; exact h2) (by rw [c.K]; exact h3) .nil (passes_call c.tk fun _ _ _ _ h => h) ha (glB_ok hg).2.1 (plain_star hp'.1) (plain_any hp'.2)
theorem permL_vals {vs : List V} {us : List Value} (r : Vals vs us) : ∀ {perm : List Nat} {ys : List V}, permL perm vs = some ys → ∃ zs, permL perm us = some zs ∧ Vals ys zs
  | [], ys, h => by cases h; exact ⟨[], rfl, .nil⟩
  | i :: is, ys, h => by
    unfold permL at h
    split at h
    · rename_i x ys h1 h2
      cases h
      obtain ⟨zs, k1, k2⟩ := permL_vals r (perm := is) h2
      obtain ⟨v, k3, k4⟩ := r.get h1
      refine ⟨v :: zs, ?_, .cons k4 k2⟩
      unfold permL
      rw [k3, k1]
    · cases h
theorem kw_some {pos : Pos} {env : PySem.Env} : ∀ {kws : List Keyword}, kwSome kws = true → (backToKw pos (keywordEach kws env)).all (·.1.isSome) = true ∧ (backToKw pos (keywordEach kws env)).any (·.1.isNone) = false ∧ (backToKw pos (keywordEach kws env)).filterMap (·.1) = kwNames kws
  | [], _ => ⟨rfl, rfl, rfl⟩
  | ⟨nm, e, kp⟩ :: kws, h => by
    unfold kwSome at h
    rw [List.all_cons, Bool.and_eq_true] at h
    obtain ⟨h1, h2⟩ := h
    obtain ⟨q1, q2, q3⟩ := kw_some (pos := pos) (env := env) (kws := kws) h2
    cases nm with
    | none => cases h1
    | some nm =>
      refine ⟨?_, ?_, ?_⟩
      · exact q1
      · exact q2
      · show nm :: (backToKw pos (keywordEach kws env)).filterMap (·.1) = nm :: kwNames kws
        rw [q3]
theorem pe_fnk (c : CtxOk g ck sc W n C) (F : Facts g ck call n) {k : Nat} {x : Str} {kws : List Keyword} {perm : List Nat} (hf : (k, x, kwNames kws, perm) ∈ ck.kws) (hg : glB sc x = true) (hs : kwSome kws = true) {p pos : Pos} {t : TA} (ha : PK C kws t) :
    PE C (.Call (.Name x p) [] kws pos) (tCallP (spD g call k) perm (eW g W) t) := by
  obtain ⟨⟨ad, fd, ps, h1, h2, h5, h6⟩, hl⟩ := F.kw k x _ perm hf
  have F' : FnOk C.prog C.w C.K C.mg C.base (L2.CX C.prog C.w) n ad fd ps (spD g call k) := by
    rw [c.prog, c.w, c.K, c.mg, c.base]
    exact h5
  have hx : Passes (L2.CX C.prog C.w) C (eW g W) := passes_call c.tk fun _ _ _ _ h => h
  obtain ⟨k1, k2, k3⟩ := kw_some (pos := pos) (env := C.env) hs
  refine ⟨fun pins s σ H Q I h => ?_⟩
  refine wpAny_Call_Name_kw (ld_glob I (c.gl hg) (by rw [c.mg]; exact h1) ?_ (glB_ok hg).2.1)
  refine PySem.W.callWith_KW0 (h₀ := C.base) I.ok.mod.kin (by rw [c.K]; exact h2) k1 ?_ (by rw [k2]; rfl)
  refine thn (ha.run pos pins s σ H _ I h) fun ws s2 ⟨zs, H2, I2, rz, ys, hy, q2⟩ => ⟨I2.kIn, ?_⟩
  rw [k3]
  unfold permD at hy
  split at hy
  · rename_i hlz
    obtain ⟨us, e1, e2⟩ := permL_vals rz hy
    have hl2 : us.length = ps.length := by rw [← e2.length]; exact F'.len _ _ _ _ q2
    have hw : BindsTo s2 fd ⟨[], (kwNames kws).zip ws⟩ (ps.zip us) := h6 s2 ws us (by rw [← c.K]; exact I2.kIn) (by rw [← rz.length, hlz, hl]) e1
    refine wpAny_call (codeAny_mono (F'.run C.A C.stack s2 H2 ⟨[], (kwNames kws).zip ws⟩ us ys Q _ c.room I2.env0 hw e2 q2) fun r s' hq => ?_)
    cases r with
    | error e => exact hx pins σ H2 s2 e s' I2 hq
    | ok fl =>
      cases fl with
      | ret u => exact I2.after hq
      | next => exact False.elim hq
      | brk => exact False.elim hq
      | cont => exact False.elim hq
  · cases hy
theorem pe_fnm (c : CtxOk g ck sc W n C) (F : Facts g ck call n) {k m : Nat} {x : Str} {kws : List Keyword} {perm : List Nat} {e : Expr} {es : List Expr} (hf : (k, x, m, kwNames kws, perm) ∈ ck.mws) (hg : glB sc x = true) (hs : kwSome kws = true) {p pos : Pos} {t tk : TA} (ha : PA C (e :: es) t) (hp : (e :: es).all plainE = true) (hk : PK C kws tk) :
    PE C (.Call (.Name x p) (e :: es) kws pos) (fun σ H Q => t σ H fun xs H1 => tk σ H1 fun zs H2 => ∃ ys, permM m perm xs zs = some ys ∧ spD g call k ys H2 Q (eW g W)) := by
  obtain ⟨⟨ad, fd, ps, h1, h2, h5, h6⟩, hl⟩ := F.mw k x _ _ perm hf
  have hp' := hp
  rw [List.all_cons, Bool.and_eq_true] at hp'
  have F' : FnOk C.prog C.w C.K C.mg C.base (L2.CX C.prog C.w) n ad fd ps (spD g call k) := by
    rw [c.prog, c.w, c.K, c.mg, c.base]
    exact h5
  have hx : Passes (L2.CX C.prog C.w) C (eW g W) := passes_call c.tk fun _ _ _ _ h => h
  obtain ⟨k1, k2, k3⟩ := kw_some (pos := pos) (env := C.env) hs
  refine ⟨fun pins s σ H Q I h => ?_⟩
  refine wpAny_Call_Name_kw (ld_glob I (c.gl hg) (by rw [c.mg]; exact h1) ?_ (glB_ok hg).2.1)
  refine PySem.W.callWith_KW (h₀ := C.base) I.ok.mod.kin (by rw [c.K]; exact h2) k1 ?_ (by rw [k2, plain_any hp]; rfl) (plain_star hp'.1)
  refine thn (ha.run pos pins s σ H _ I h) fun us s1 ⟨xs, H1, I1, rx, q1⟩ => ?_
  refine thn (hk.run pos pins s1 σ H1 _ I1 q1) fun ws s2 ⟨zs, H2, I2, rz, ys, hy, q2⟩ => ⟨I2.kIn, ?_⟩
  rw [k3]
  unfold permM permD at hy
  split at hy
  rename_i hml
  split at hy
  · rename_i hlz
    have rxz : Vals (xs ++ zs) (us ++ ws) := rx.append rz
    obtain ⟨vs, e1, e2⟩ := permL_vals rxz hy
    have hl2 : vs.length = ps.length := by rw [← e2.length]; exact F'.len _ _ _ _ q2
    have hul : us.length = m := by rw [← rx.length]; exact hml
    have hw : BindsTo s2 fd ⟨us, (kwNames kws).zip ws⟩ (ps.zip vs) := h6 s2 us ws vs (by rw [← c.K]; exact I2.kIn) hul (by have := rx.length; have := rz.length; rw [List.length_append] at hlz; omega) e1
    refine wpAny_call (codeAny_mono (F'.run C.A C.stack s2 H2 ⟨us, (kwNames kws).zip ws⟩ vs ys Q _ c.room I2.env0 hw e2 q2) fun r s' hq => ?_)
    cases r with
    | error e => exact hx pins σ H2 s2 e s' I2 hq
    | ok fl =>
      cases fl with
      | ret u => exact I2.after hq
      | next => exact False.elim hq
      | brk => exact False.elim hq
      | cont => exact False.elim hq
  · cases hy
  · cases hy
theorem op1_ok (c : CtxOk g ck sc W n C) {o : O1} {e ea : Expr} (h : op1P o e = some ea) {t : TE} {f : Env → T D} (ha : PE C ea t) (hs : SimE g W t f) : ∃ t', PE C e t' ∧ SimE g W t' fun r => f r >>= op1T o := by
  cases o
  unfold op1P at h
  split at h
  · split at h
    · rename_i hi
      cases h
      subst hi
      refine ⟨tRevA g.K t, ?_, sim_rev hs⟩
      rw [← c.K]
      exact pe_revA ha
    · cases h
  · cases h
theorem op1_test {o : O1} {e ea : Expr} (h : op1P o e = some ea) (env : PySem.Env) : ∀ whole, isTrue e env whole = (do let v ← whole; standAt e.pos; holding [v] (truthy v)) := by
  cases o
  unfold op1P at h
  split at h
  · exact fun _ => rfl
  · cases h
theorem visB_ok {i : Nat} {x : Str} (c : CtxOk g ck sc W n C) (h : visB ck sc i x = true) {p : Pos} : PE C (.Name x p) (tVar i) := by
  unfold visB at h
  simp only [Bool.and_eq_true, decide_eq_true_eq, Bool.not_eq_true'] at h
  obtain ⟨⟨⟨h1, h2⟩, h3⟩, h4⟩ := h
  refine pe_var (by rw [c.N]; exact h1) ?_ h3 h4
  show Vis C.env.scope x
  rw [c.sc]
  unfold Vis
  cases q : sc.names.lookup x with
  | none => rw [q] at h2; cases h2
  | some k =>
    rw [q] at h2
    cases k <;> first
      | (cases h2; done)
      | exact .inl rfl
      | exact .inr (.inl rfl)
      | exact .inr (.inr rfl)
theorem plainIx_ok {e : Expr} (h : plainIxB e = true) : PlainIx e := by
  intro o i
  cases e <;> first
    | rfl
    | exact (Bool.false_ne_true h).elim
theorem pt_of {e : Expr} {t : TE} (h : PE C e t) (he : ∀ whole, isTrue e C.env whole = (do let v ← whole; standAt e.pos; holding [v] (truthy v))) : PT C e (tTest t) := pt_val h he
theorem pg_nm (c : CtxOk g ck sc W n C) (F : Facts g ck call n) {f : Str → Bool} (hf : ∀ x, f x = true → C.fn x = true) {i : Nat} {e : Expr} (h : nmB ck sc f i e = true) : PG C e (gName i) := by
  cases e <;> first
    | exact (Bool.false_ne_true h).elim
    | skip
  rename_i x p
  unfold nmB at h
  simp only [Bool.and_eq_true, Bool.or_eq_true, decide_eq_true_eq] at h
  obtain ⟨h1, h2⟩ := h
  have hN : C.N.Nodup := by rw [c.N]; exact F.nd
  have hi : C.N[i]? = some x := by rw [c.N]; exact h1
  rcases h2 with h2 | ⟨h2, h3⟩
  · exact pg_name hN hi (.inl (by rw [c.sc]; exact h2)) (.inr (by rw [c.sc]; exact h2))
  · exact pg_name hN hi (.inr (by rw [c.sc]; exact h2)) (.inl (hf x h3))
theorem pgs_nms (c : CtxOk g ck sc W n C) (F : Facts g ck call n) {f : Str → Bool} (hf : ∀ x, f x = true → C.fn x = true) : ∀ {is : List Nat} {es : List Expr}, nmsB ck sc f is es = true →
    PGs C es (gNames is) ∧ (assignEach es C.env).length = is.length ∧ (assignEach es C.env).findIdx? (·.1) = none
  | [], [], _ => ⟨pgs_nil, rfl, rfl⟩
  | [], _ :: _, h => (Bool.false_ne_true h).elim
  | _ :: _, [], h => (Bool.false_ne_true h).elim
  | i :: is, e :: es, h => by
    unfold nmsB at h
    rw [Bool.and_eq_true] at h
    obtain ⟨h1, h2, h3⟩ := pgs_nms c F hf (is := is) (es := es) h.2
    have q := pg_nm c F hf h.1
    have h0 := h.1
    cases e with
    | Name x p =>
      have e1 : assignEach (.Name x p :: es) C.env = (false, assign (.Name x p) C.env) :: assignEach es C.env := by
        first | rfl | simp [assignEach]
      refine ⟨pgs_cons q h1 (by rw [e1]; rfl), by rw [e1]; exact congrArg Nat.succ h2, ?_⟩
      rw [e1, List.findIdx?_cons, h3]
      rfl
    | _ => exact (Bool.false_ne_true h0).elim
def tgR (g : G) : Tg → TG
  | .nm i => gName i
  | .tp is => gTup g.K is.length (gNames is)
theorem simG_tg : ∀ tg : Tg, SimG g tg (tgR g tg)
  | .nm _ => simG_nm
  | .tp _ => simG_tp
theorem pg_tg (c : CtxOk g ck sc W n C) (F : Facts g ck call n) {f : Str → Bool} (hf : ∀ x, f x = true → C.fn x = true) {tg : Tg} {e : Expr} (h : tgCell ck sc f tg e = true) : PG C e (tgR g tg) := by
  cases tg with
  | nm i => exact pg_nm c F hf h
  | tp is =>
    cases e <;> first
      | exact (Bool.false_ne_true h).elim
      | skip
    rename_i es k p
    obtain ⟨h1, h2, h4⟩ := pgs_nms c F hf (show nmsB ck sc f is es = true from h)
    show PG C (.Tuple es k p) (gTup g.K is.length (gNames is))
    rw [← c.K]
    exact pg_tup c.calm h1 h2 h4
end
end PV
end
section
set_option maxHeartbeats 8000000
/-! PvS6: the theorem over all terms of expressions. -/
namespace PV
open PySem PySem.Spec PyProof.Rows L2
section
variable {g : G} {ck : Ck} {n : Nat} {call : Nat → List D → T D}
abbrev SE (g : G) (C : Cx) (W : Nat → Hp → Prop) (e : Expr) (f : Env → T D) : Prop := ∃ t, PE C e t ∧ SimE g W t f
abbrev SB (g : G) (C : Cx) (W : Nat → Hp → Prop) (e : Expr) (f : Env → T Bool) : Prop := ∃ t, PT C e t ∧ SimB g W t f
abbrev SW (g : G) (C : Cx) (W : Nat → Hp → Prop) (e : Expr) (f : Env → T Bool) : Prop := ∃ t, PW C e t ∧ SimB g W t f
abbrev SA (g : G) (C : Cx) (W : Nat → Hp → Prop) (e : List Expr) (f : Env → T (List D)) : Prop := ∃ t, (PA C e t ∧ ∀ kws : List Keyword, kws.map (·.value) = e → PK C kws t) ∧ SimA g W t f
abbrev SR (g : G) (C : Cx) (W : Nat → Hp → Prop) (e : List Expr) (f : Env → T (List D)) : Prop := ∃ t, PA C e t ∧ SimR g W t f
abbrev SO (g : G) (C : Cx) (W : Nat → Hp → Prop) (e : Option Expr) (f : Env → T (Option Int)) : Prop := ∃ t, PO C e t ∧ SimO g W t f
abbrev SI (g : G) (C : Cx) (W : Nat → Hp → Prop) (tg e : Expr) (f : Env → T (List D)) : Prop := ∃ t, PI C tg e t ∧ SimI g W t f
structure Snd (g : G) (ck : Ck) (call : Nat → List D → T D) (n : Nat) (x : X) : Prop where
  E : ∀ (C : Cx) (sc : Scope) (W : Nat → Hp → Prop) (e : Expr), CtxOk g ck sc W n C → chkE ck x sc e = true → SE g C W e (ev call x)
  T : ∀ (C : Cx) (sc : Scope) (W : Nat → Hp → Prop) (e : Expr), CtxOk g ck sc W n C → chkT ck x sc e = true → SB g C W e (evT call x)
  W : ∀ (C : Cx) (sc : Scope) (W : Nat → Hp → Prop) (e : Expr), CtxOk g ck sc W n C → chkW ck x sc e = true → SW g C W e (evT call x)
  A : ∀ (C : Cx) (sc : Scope) (W : Nat → Hp → Prop) (e : List Expr), CtxOk g ck sc W n C → chkA ck x sc e = true → SA g C W e (evA call x)
  R : ∀ (C : Cx) (sc : Scope) (W : Nat → Hp → Prop) (e : List Expr), CtxOk g ck sc W n C → chkR ck x sc e = true → SR g C W e (evR call x)
  O : ∀ (C : Cx) (sc : Scope) (W : Nat → Hp → Prop) (e : Option Expr), CtxOk g ck sc W n C → chkO ck x sc e = true → SO g C W e (evO call x)
  I : ∀ (C : Cx) (sc : Scope) (W : Nat → Hp → Prop) (tg e : Expr), CtxOk g ck sc W n C → chkI ck x sc tg e = true → SI g C W tg e (evI call x)
theorem no {P : Prop} {b : Bool} (h : b = true) (e : b = false) : P := by rw [e] at h; cases h
section
variable {W : Nat → Hp → Prop} {C : Cx} {sc : Scope}
theorem SE.seq (c : CtxOk g ck sc W n C) {tg e : Expr} {f : Env → T D} (h : SE g C W e f) : SI g C W tg e fun r => f r >>= fun v => ofO (frozen v) := by
  obtain ⟨t, h1, h2⟩ := h
  have h3 : PI C tg e (iSeq g.K t) := by rw [← c.K]; exact pi_seq h1
  exact ⟨_, h3, simI_seq h2⟩
theorem SE.test {e : Expr} {f : Env → T D} (h : SE g C W e f) (he : ∀ whole, isTrue e C.env whole = (do let v ← whole; standAt e.pos; holding [v] (truthy v))) : SB g C W e fun r => f r >>= toB := by
  obtain ⟨t, h1, h2⟩ := h
  exact ⟨_, pt_of h1 he, sim_test h2⟩
theorem sim_yes : SimB g W tYes fun _ => .ret true := fun r Z σ H Q c a => a Z H (.refl c.pre) rfl
theorem notSet_ok {e : Expr} {env : PySem.Env} (h : notSetB e = true) : ∀ x, foldedSetIterable e env x = pure x := by
  intro x
  cases e <;> first
    | rfl
    | exact (Bool.false_ne_true h).elim
theorem tgIn_ok {own : List (Str × Nat)} {tg : Tg} (h : tgIn own tg = true) : ∀ i ∈ tg.slots, i ∈ own.map (·.2) := by
  intro i hi
  cases tg with
  | nm j =>
    cases List.mem_singleton.mp hi
    exact of_decide_eq_true h
  | tp is => exact of_decide_eq_true (List.all_eq_true.mp h i hi)
theorem CtxOk.blk (c : CtxOk g ck sc W n C) (s : Shared) (H : Hp) (scope : Scope) (A : Addr) (cl : List (Str × Addr)) (fp : List Addr) (hl : ck.lam ≠ some (relS scope sc)) : CtxOk g ck (relS scope sc) (fun _ _ => False) n (C.blk s H scope (compEnvC scope cl A C.env) fp) where
  lam := fun e => absurd e hl
  prog := c.prog
  w := c.w
  K := c.K
  mg := c.mg
  base := c.base
  N := c.N
  sc := by
    show relS scope C.env.scope = relS scope sc
    rw [c.sc]
  calm := c.calm
  room := c.room
  tk := takes0.imp fun _ _ _ _ ⟨_, _, _, h⟩ => h.elim
theorem se_call (c : CtxOk g ck sc W n C) (F : Facts g ck call n) {f : Nat} {as : X} (ih : Snd g ck call n as) {x : Str} {p pos : Pos} {e : Expr} {es : List Expr}
    (h : (glB sc x && decide ((f, x, (e :: es).length) ∈ ck.fns) && chkA ck as sc (e :: es) && (e :: es).all plainE) = true) : SE g C W (.Call (.Name x p) (e :: es) [] pos) (ev call (.call f as)) := by
  simp only [Bool.and_eq_true, decide_eq_true_eq] at h
  obtain ⟨⟨⟨h1, h2⟩, h3⟩, h4⟩ := h
  obtain ⟨t, q1, q2⟩ := ih.A C sc W _ c h3
  exact ⟨_, pe_fn c F h2 h1 q1.1 h4, sim_call q2⟩
theorem se_callK (c : CtxOk g ck sc W n C) (F : Facts g ck call n) {f : Nat} {perm : List Nat} {as : X} (ih : Snd g ck call n as) {x : Str} {p pos : Pos} {kws : List Keyword}
    (h : (glB sc x && decide ((f, x, kwNames kws, perm) ∈ ck.kws) && kwSome kws && chkA ck as sc (kws.map (·.value))) = true) : SE g C W (.Call (.Name x p) [] kws pos) (ev call (.callK f perm as)) := by
  simp only [Bool.and_eq_true, decide_eq_true_eq] at h
  obtain ⟨⟨⟨h1, h2⟩, h3⟩, h4⟩ := h
  obtain ⟨t, q1, q2⟩ := ih.A C sc W _ c h4
  exact ⟨_, pe_fnk c F h2 h1 h3 (q1.2 kws rfl), sim_callP q2⟩
end
theorem se_blt {W : Nat → Hp → Prop} {C : Cx} {sc : Scope} (c : CtxOk g ck sc W n C) (F : Facts g ck call n) {f : Blt} {as : X} (ihs : Snd g ck call n as) {x : Str} {p pos : Pos} {e : Expr} {es : List Expr}
    (h : (glB sc x && decide (x = bltName f) && decide (kindName f = none) && chkR ck as sc (e :: es) && (e :: es).all plainE && modB ck f) = true) : SE g C W (.Call (.Name x p) (e :: es) [] pos) fun r => (evs call as).R r >>= fun ds => bltT f ds := by
  simp only [Bool.and_eq_true, decide_eq_true_eq] at h
  obtain ⟨⟨⟨⟨⟨h1, h2⟩, h3⟩, h4⟩, h5⟩, h6⟩ := h
  obtain ⟨t, q1, q2⟩ := ihs.R C sc W _ c h4
  exact ⟨_, pe_blt c F h3 h2 h1 q1 h5 h6, sim_blt (rF_s h3) q2⟩
theorem se_isk {W : Nat → Hp → Prop} {C : Cx} {sc : Scope} (c : CtxOk g ck sc W n C) (F : Facts g ck call n) {f : Blt} {a : X} (iha : Snd g ck call n a) {x y : Str} {p pos p2 : Pos} {e : Expr}
    (h : (glB sc x && decide (x = bltName f) && glB sc y && decide (kindName f = some y) && chkE ck a sc e && plainE e) = true) : SE g C W (.Call (.Name x p) [e, .Name y p2] [] pos) fun r => (evs call a).E r >>= fun x => bltT f [x] := by
  simp only [Bool.and_eq_true, decide_eq_true_eq] at h
  obtain ⟨⟨⟨⟨⟨h1, h2⟩, h3⟩, h4⟩, h5⟩, h6⟩ := h
  obtain ⟨t, q1, q2⟩ := iha.E C sc W _ c h5
  obtain ⟨tn, kk, e1, e2, e3⟩ := pe_kind c F h4 h2 h1 rfl h3 (p := p) (pos := pos) (p2 := p2) q1 h6
  refine ⟨_, e3, ?_⟩
  rw [e1]
  exact sim_isk e2 q2
/-- a term of one kind alone -/
theorem ofE_snd {x : X} {f : Env → T D} (he : evs call x = ofE f) (hE : ∀ (C : Cx) (sc : Scope) (W : Nat → Hp → Prop) (e : Expr), CtxOk g ck sc W n C → chkE ck x sc e = true → SE g C W e f)
    (hT : ∀ (C : Cx) (sc : Scope) (e : Expr), chkT ck x sc e = true → chkE ck x sc e = true ∧ ((∀ whole, isTrue e C.env whole = (do let v ← whole; standAt e.pos; holding [v] (truthy v))) ∨ ∃ a o b p, e = .Compare a o b p))
    (hC : ∀ (C : Cx) (sc : Scope) (W : Nat → Hp → Prop) (a : Expr) (o : List CmpOp) (b : List Expr) (p : Pos), CtxOk g ck sc W n C → chkT ck x sc (.Compare a o b p) = true → SB g C W (.Compare a o b p) fun r => f r >>= toB)
    (hI : ∀ (sc : Scope) (tg e : Expr), chkI ck x sc tg e = true → chkE ck x sc e = true)
    (nW : ∀ sc e, chkW ck x sc e = false) (nA : ∀ sc e, chkA ck x sc e = false) (nR : ∀ sc e, chkR ck x sc e = false) (nO : ∀ sc e, chkO ck x sc e = false) : Snd g ck call n x where
  E := fun C sc W e c h => by
    have q := hE C sc W e c h
    have e1 : ev call x = f := by funext r; show (evs call x).E r = f r; rw [he]; rfl
    rw [e1]; exact q
  T := fun C sc W e c h => by
    have e1 : evT call x = fun r => f r >>= toB := by funext r; show (evs call x).B r = _; rw [he]; rfl
    rw [e1]
    obtain ⟨h1, h2⟩ := hT C sc e h
    rcases h2 with h2 | ⟨a, o, b, p, rfl⟩
    · exact (hE C sc W e c h1).test h2
    · exact hC C sc W a o b p c h
  W := fun C sc W e c h => no h (nW sc e)
  A := fun C sc W e c h => no h (nA sc e)
  R := fun C sc W e c h => no h (nR sc e)
  O := fun C sc W e c h => no h (nO sc e)
  I := fun C sc W tg e c h => by
    have e1 : evI call x = fun r => f r >>= fun v => ofO (frozen v) := by funext r; show (evs call x).I r = _; rw [he]; rfl
    rw [e1]
    exact (hE C sc W e c (hI sc tg e h)).seq c
theorem constE {x : X} {f : Env → T D} (he : evs call x = ofE f) (hE : ∀ (C : Cx) (sc : Scope) (W : Nat → Hp → Prop) (e : Expr), CtxOk g ck sc W n C → chkE ck x sc e = true → SE g C W e f)
    (nT : ∀ sc e, chkT ck x sc e = false) (nI : ∀ sc tg e, chkI ck x sc tg e = false)
    (nW : ∀ sc e, chkW ck x sc e = false) (nA : ∀ sc e, chkA ck x sc e = false) (nR : ∀ sc e, chkR ck x sc e = false) (nO : ∀ sc e, chkO ck x sc e = false) : Snd g ck call n x :=
  ofE_snd he hE (fun _ sc e h => no h (nT sc e)) (fun _ sc _ _ _ _ _ _ h => no h (nT sc _)) (fun sc tg e h => no h (nI sc tg e)) nW nA nR nO
theorem and_list {W : Nat → Hp → Prop} {C : Cx} {sc : Scope} {b : X} (ih : Snd g ck call n b) (c : CtxOk g ck sc W n C) {op : BoolOp} {eb : Expr} {es : List Expr} {pos : Pos}
    (h : (tailB es (chkE ck b sc eb) (chkE ck b sc (.BoolOp op (eb :: es) pos))) = true) : SE g C W (.BoolOp op (eb :: es) pos) (ev call b) := by
  cases es with
  | nil =>
    obtain ⟨t, h1, h2⟩ := ih.E C sc W eb c h
    exact ⟨t, pe_one h1, h2⟩
  | cons a as => exact ih.E C sc W _ c h
theorem andW_list {W : Nat → Hp → Prop} {C : Cx} {sc : Scope} {b : X} (ih : Snd g ck call n b) (c : CtxOk g ck sc W n C) {eb : Expr} {es : List Expr} {pos : Pos}
    (h : (tailB es (chkT ck b sc eb) (chkW ck b sc (.BoolOp .And (eb :: es) pos))) = true) : SW g C W (.BoolOp .And (eb :: es) pos) (evT call b) := by
  cases es with
  | nil =>
    obtain ⟨t, h1, h2⟩ := ih.T C sc W eb c h
    exact ⟨t, pw_and1 h1, h2⟩
  | cons a as => exact ih.W C sc W _ c h
theorem orW_list {W : Nat → Hp → Prop} {C : Cx} {sc : Scope} {b : X} (ih : Snd g ck call n b) (c : CtxOk g ck sc W n C) {eb : Expr} {es : List Expr} {pos : Pos}
    (h : (tailB es (chkT ck b sc eb) (chkW ck b sc (.BoolOp .Or (eb :: es) pos))) = true) : SW g C W (.BoolOp .Or (eb :: es) pos) (evT call b) := by
  cases es with
  | nil =>
    obtain ⟨t, h1, h2⟩ := ih.T C sc W eb c h
    exact ⟨t, pw_or1 h1, h2⟩
  | cons a as => exact ih.W C sc W _ c h
-- one reading for all blocks
def canE (g : G) (W : Nat → Hp → Prop) (f : Env → T D) : TE := fun σ H Q => ∃ r Z, Cfg g r Z σ H ∧ (f r).All (Post g Z H Q) (PostE g Z H W) (g.bud H)
def canB (g : G) (W : Nat → Hp → Prop) (f : Env → T Bool) : TT := fun σ H Q => ∃ r Z, Cfg g r Z σ H ∧ (f r).All (PostB g Z H Q) (PostE g Z H W) (g.bud H)
theorem SE.can {W : Nat → Hp → Prop} {C : Cx} {e : Expr} {f : Env → T D} (h : SE g C W e f) : PE C e (canE g W f) := by
  obtain ⟨t, h1, h2⟩ := h
  exact ⟨fun pins s σ H Q I ⟨r, Z, c, a⟩ => h1.run pins s σ H Q I (h2 r Z σ H Q c a)⟩
theorem SB.can {W : Nat → Hp → Prop} {C : Cx} {e : Expr} {f : Env → T Bool} (h : SB g C W e f) : PT C e (canB g W f) := by
  obtain ⟨t, h1, h2⟩ := h
  exact ⟨fun pins s σ H Q I ⟨r, Z, c, a⟩ => h1.run pins s σ H Q I (h2 r Z σ H Q c a)⟩
theorem simE_can {W : Nat → Hp → Prop} {f : Env → T D} : SimE g W (canE g W f) f := fun r Z σ H Q c a => ⟨r, Z, c, a⟩
theorem simB_can {W : Nat → Hp → Prop} {f : Env → T Bool} : SimB g W (canB g W f) f := fun r Z σ H Q c a => ⟨r, Z, c, a⟩
theorem tg_any {W : Nat → Hp → Prop} {C : Cx} {sc : Scope} (c : CtxOk g ck sc W n C) (F : Facts g ck call n) {scope : Scope} {tg : Tg} {e : Expr} (hl : ck.lam ≠ some (relS scope sc)) (h : tgCell ck (relS scope sc) (fun x => scope.names.lookup x == some .cell) tg e = true) :
    ∃ t, (∀ (s : Shared) (H : Hp) (A : Addr) (cl : List (Str × Addr)) (fp : List Addr), PG (C.blk s H scope (compEnvC scope cl A C.env) fp) e t) ∧ SimG g tg t :=
  ⟨_, fun s H A cl fp => pg_tg (c.blk s H scope A cl fp hl) F (fun _ h => h) h, simG_tg tg⟩
theorem E_any {W : Nat → Hp → Prop} {C : Cx} {sc : Scope} {x : X} (ih : Snd g ck call n x) (c : CtxOk g ck sc W n C) {scope : Scope} {e : Expr} (hl : ck.lam ≠ some (relS scope sc)) (h : chkE ck x (relS scope sc) e = true) :
    ∃ t, (∀ (s : Shared) (H : Hp) (A : Addr) (cl : List (Str × Addr)) (fp : List Addr), PE (C.blk s H scope (compEnvC scope cl A C.env) fp) e t) ∧ SimE g (fun _ _ => False) t (evs call x).E :=
  ⟨_, fun s H A cl fp => (ih.E _ _ _ _ (c.blk s H scope A cl fp hl) h).can, simE_can⟩
theorem B_any {W : Nat → Hp → Prop} {C : Cx} {sc : Scope} {x : X} (ih : Snd g ck call n x) (c : CtxOk g ck sc W n C) {scope : Scope} {e : Expr} (hl : ck.lam ≠ some (relS scope sc)) (h : chkT ck x (relS scope sc) e = true) :
    ∃ t, (∀ (s : Shared) (H : Hp) (A : Addr) (cl : List (Str × Addr)) (fp : List Addr), PT (C.blk s H scope (compEnvC scope cl A C.env) fp) e t) ∧ SimB g (fun _ _ => False) t (evs call x).B :=
  ⟨_, fun s H A cl fp => (ih.T _ _ _ _ (c.blk s H scope A cl fp hl) h).can, simB_can⟩
theorem noParams_ok {params : Arguments} (h : noParams params = true) : params = ⟨[], [], none, [], [], none, []⟩ := by
  unfold noParams at h
  split at h
  · rfl
  · cases h
theorem se_caught {W : Nat → Hp → Prop} {C : Cx} {sc : Scope} (c : CtxOk g ck sc W n C) (F : Facts g ck call n) {nx : Nat} {b : X} (ih : Snd g ck call n b) {x : Str} {p lpos pos : Pos} {params : Arguments} {body : Expr} {scope : Scope}
    (h : (decide (x = ("_law_caught" : Str)) && glB sc x && decide (ck.lam = some sc) && decide (ck.nx = nx) && noParams params && LamX.lamSB sc scope && decide (ck.lam ≠ some scope) && chkE ck b scope body) = true) :
    SE g C W (.Call (.Name x p) [.Lambda params body scope lpos] [] pos) fun r => catchT nx ((evs call b).E r) := by
  simp only [Bool.and_eq_true, decide_eq_true_eq] at h
  obtain ⟨⟨⟨⟨⟨⟨⟨h1, h2⟩, h3⟩, h4⟩, h5⟩, h6⟩, h7⟩, h8⟩ := h
  subst h1 h4
  have e5 := noParams_ok h5
  subst e5
  obtain ⟨ad, CS, k, p1, p2, p3, p4, p5, p6, p7, p8, p9, p10, p11, p12, p13, p14, pg, sg, dV, kV, doc, pm, cdv, ct, oc, an, od, osl, m1, m2, m3, m4, m5, m6, m7, m8, m9, m10, m11, m12⟩ := (F.cau (by rw [h3]; intro z; cases z)).ex
  have L := c.lam h3
  obtain ⟨cc, P, l1, l2, l3, l4⟩ := L.ex
  have hG : LamX.GivesTo C NC "_law_caught" sg ad cdv (caughtB p1 p2 p3 p4 p5 p6 p7 p8 p9 p10 p11 p12 p13 p14 k) "work" (C.env.qual ++ "<lambda>") (TKeep g.K CS) := by
    rw [← c.K]
    exact keep_gives m8 (by rw [c.mg]; exact m11) m9 m10
  have LS : LamX.LamS C.env.scope scope := by rw [c.sc]; exact LamX.lamS_by h6
  have nT : g.T ≠ [] := fun z => by rw [z] at l3; cases l3
  refine ⟨_, pe_lamN (t := fun E => canE g (fun c H' => E (.ref (g.cad c)) none H') (evs call b).E) (c.gl h2) (by rw [c.mg]; exact m1) (by rw [c.K]; exact m2) (by rw [c.K]; exact m3) (by rw [c.K]; exact m4) (by rw [c.K]; exact m5) m6 rfl m7 hG (by rw [c.base, c.mg]; exact l1) l2 l3 l4 L.room LS rfl (fun _ _ _ _ _ => rfl)
    (fun A outer s H E f c' hr => ?_) (by decide +kernel) (by decide +kernel) (by decide +kernel), sim_caught nT m12 L.h0 fun E => simE_can⟩
  have c2 : CtxOk g ck scope (fun c H' => E (.ref (g.cad c)) none H') n (LamX.lamCx C A outer s H E scope f c') :=
    { prog := c.prog, w := c.w, K := c.K, mg := c.mg, base := c.base, N := c.N, lam := fun e => absurd e h7, sc := rfl, calm := rfl, room := hr
      tk := (takes_of (E := E) rfl rfl rfl rfl).imp fun cls d _ H h => by
        obtain ⟨c, rfl, rfl, h⟩ := h
        exact h }
  exact (ih.E _ _ _ _ c2 h8).can
theorem se_isx {W : Nat → Hp → Prop} {C : Cx} {sc : Scope} (c : CtxOk g ck sc W n C) (F : Facts g ck call n) {nx k : Nat} {a : X} (iha : Snd g ck call n a) {x y : Str} {p pos p2 : Pos} {e : Expr}
    (h : (glB sc x && decide (x = ("isinstance" : Str)) && glB sc y && decide ((k, y) ∈ ck.exs) && decide (ck.nx = nx) && chkE ck a sc e && plainE e) = true) : SE g C W (.Call (.Name x p) [e, .Name y p2] [] pos) fun r => (evs call a).E r >>= isxT nx k := by
  simp only [Bool.and_eq_true, decide_eq_true_eq] at h
  obtain ⟨⟨⟨⟨⟨⟨h1, h2⟩, h3⟩, h4⟩, h0⟩, h5⟩, h6⟩ := h
  obtain ⟨t, q1, q2⟩ := iha.E C sc W _ c h5
  subst h0
  exact ⟨_, pe_isx c F h2 h1 h4 h3 q1 h6, sim_isx (F.exs k y h4) q2⟩
theorem sound (F : Facts g ck call n) (x : X) : Snd g ck call n x := by
  induction x with
  | non =>
    refine constE rfl (fun C sc W e c h => ?_) (fun _ _ => rfl) (fun _ _ _ => rfl) (fun _ _ => rfl) (fun _ _ => rfl) (fun _ _ => rfl) (fun _ _ => rfl)
    cases e with
    | Constant k j p => cases k with
      | none => exact ⟨_, pe_non, sim_c fun _ => .non⟩
      | _ => exact (Bool.false_ne_true h).elim
    | _ => exact (Bool.false_ne_true h).elim
  | bl b =>
    refine constE rfl (fun C sc W e c h => ?_) (fun _ _ => rfl) (fun _ _ _ => rfl) (fun _ _ => rfl) (fun _ _ => rfl) (fun _ _ => rfl) (fun _ _ => rfl)
    cases e with
    | Constant k j p => cases k with
      | bool c =>
        cases (beq_iff_eq.mp (show (b == c) = true from h))
        exact ⟨_, pe_bl, sim_c fun _ => .bl b⟩
      | _ => exact (Bool.false_ne_true h).elim
    | _ => exact (Bool.false_ne_true h).elim
  | int b =>
    refine constE rfl (fun C sc W e c h => ?_) (fun _ _ => rfl) (fun _ _ _ => rfl) (fun _ _ => rfl) (fun _ _ => rfl) (fun _ _ => rfl) (fun _ _ => rfl)
    cases e with
    | Constant k j p => cases k with
      | int c =>
        cases (beq_iff_eq.mp (show (b == c) = true from h))
        exact ⟨_, pe_int, sim_c fun _ => .int b⟩
      | _ => exact (Bool.false_ne_true h).elim
    | _ => exact (Bool.false_ne_true h).elim
  | str b =>
    refine constE rfl (fun C sc W e c h => ?_) (fun _ _ => rfl) (fun _ _ _ => rfl) (fun _ _ => rfl) (fun _ _ => rfl) (fun _ _ => rfl) (fun _ _ => rfl)
    cases e with
    | Constant k j p => cases k with
      | str c =>
        cases (of_decide_eq_true (show decide (b = c) = true from h))
        exact ⟨_, pe_str, sim_c fun _ => .str b⟩
      | _ => exact (Bool.false_ne_true h).elim
    | _ => exact (Bool.false_ne_true h).elim
  | var i =>
    have key : ∀ (C : Cx) (sc : Scope) (W : Nat → Hp → Prop) (e : Expr), CtxOk g ck sc W n C → chkE ck (.var i) sc e = true → SE g C W e fun r => getV r i := fun C sc W e c h => by
      cases e with
      | Name x p => exact ⟨_, visB_ok c h, sim_var⟩
      | _ => exact (Bool.false_ne_true h).elim
    refine ofE_snd rfl key (fun C sc e h => ?_) (fun _ _ _ _ _ _ _ _ h => (Bool.false_ne_true h).elim) (fun sc tg e h => ?_) (fun _ _ => rfl) (fun _ _ => rfl) (fun _ _ => rfl) (fun _ _ => rfl)
    · cases e with
      | Name x p => exact ⟨h, .inl fun _ => rfl⟩
      | _ => exact (Bool.false_ne_true h).elim
    · cases e with
      | Name x p => exact h
      | _ => exact (Bool.false_ne_true h).elim
  | con y i =>
    refine constE rfl (fun C sc W e c h => ?_) (fun _ _ => rfl) (fun _ _ _ => rfl) (fun _ _ => rfl) (fun _ _ => rfl) (fun _ _ => rfl) (fun _ _ => rfl)
    cases e with
    | Name x p =>
      have h : (decide (x = y) && glB sc x && decide ((x, i) ∈ ck.cons)) = true := h
      simp only [Bool.and_eq_true, decide_eq_true_eq] at h
      obtain ⟨⟨_, h1⟩, h2⟩ := h
      obtain ⟨t, ht⟩ := F.con x i h2
      exact ⟨_, pe_glob (v := .int i) (c.gl h1) (by rw [c.mg]; exact ht) ⟨t, rfl⟩ (glB_ok h1).2.1, sim_c fun _ => .int i⟩
    | _ => exact (Bool.false_ne_true h).elim
  | bin op a b iha ihb =>
    refine constE rfl (fun C sc W e c h => ?_) (fun _ _ => rfl) (fun _ _ _ => rfl) (fun _ _ => rfl) (fun _ _ => rfl) (fun _ _ => rfl) (fun _ _ => rfl)
    cases e with
    | BinOp ea o eb p =>
      have h : (bopB op o && chkE ck a sc ea && chkE ck b sc eb) = true := h
      simp only [Bool.and_eq_true] at h
      obtain ⟨⟨h0, h1⟩, h2⟩ := h
      obtain ⟨ta, q1, q2⟩ := iha.E C sc W _ c h1
      obtain ⟨tb, k1, k2⟩ := ihb.E C sc W _ c h2
      exact ⟨_, pe_op (rB_o c h0) q1 k1, sim_op (rB_s op) q2 k2⟩
    | _ => exact (Bool.false_ne_true h).elim
  | neg a iha =>
    refine constE rfl (fun C sc W e c h => ?_) (fun _ _ => rfl) (fun _ _ _ => rfl) (fun _ _ => rfl) (fun _ _ => rfl) (fun _ _ => rfl) (fun _ _ => rfl)
    cases e with
    | UnaryOp o ea p => cases o with
      | USub =>
        obtain ⟨ta, q1, q2⟩ := iha.E C sc W _ c h
        exact ⟨_, pe_un un_neg q1, sim_neg q2⟩
      | _ => exact (Bool.false_ne_true h).elim
    | _ => exact (Bool.false_ne_true h).elim
  | cmp op a b iha ihb =>
    have inv : ∀ {sc : Scope} {e : Expr}, chkE ck (.cmp op a b) sc e = true → ∃ ea o eb p, e = .Compare ea [o] [eb] p ∧ copB op o = true ∧ chkE ck a sc ea = true ∧ chkE ck b sc eb = true ∧ behindInMarks o eb = false := fun {sc e} h => by
      cases e with
      | Compare ea os es p =>
        match os, es, h with
        | [o], [eb], h =>
          have h : (copB op o && chkE ck a sc ea && chkE ck b sc eb && !(behindInMarks o eb)) = true := h
          simp only [Bool.and_eq_true, Bool.not_eq_true'] at h
          exact ⟨ea, o, eb, p, rfl, h.1.1.1, h.1.1.2, h.1.2, h.2⟩
        | [], _, h => exact (Bool.false_ne_true h).elim
        | [_], [], h => exact (Bool.false_ne_true h).elim
        | [_], _ :: _ :: _, h => exact (Bool.false_ne_true h).elim
        | _ :: _ :: _, _, h => exact (Bool.false_ne_true h).elim
      | _ => exact (Bool.false_ne_true h).elim
    have same : ∀ sc e, chkT ck (.cmp op a b) sc e = true → chkE ck (.cmp op a b) sc e = true := fun sc e h => by
      cases e with
      | Compare ea os es p =>
        match os, es, h with
        | [o], [eb], h => exact h
        | [], _, h => exact (Bool.false_ne_true h).elim
        | [_], [], h => exact (Bool.false_ne_true h).elim
        | [_], _ :: _ :: _, h => exact (Bool.false_ne_true h).elim
        | _ :: _ :: _, _, h => exact (Bool.false_ne_true h).elim
      | _ => exact (Bool.false_ne_true h).elim
    refine ofE_snd rfl (fun C sc W e c h => ?_) (fun C sc e h => ?_) (fun C sc W ea os es p c h => ?_) (fun _ _ _ h => (Bool.false_ne_true h).elim) (fun _ _ => rfl) (fun _ _ => rfl) (fun _ _ => rfl) (fun _ _ => rfl)
    · obtain ⟨ea, o, eb, p, rfl, h0, h1, h2, h3⟩ := inv h
      obtain ⟨ta, q1, q2⟩ := iha.E C sc W _ c h1
      obtain ⟨tb, k1, k2⟩ := ihb.E C sc W _ c h2
      exact ⟨_, pe_cmpR (rC_o c h0) q1 k1 h3, sim_cmp (rC_s op) q2 k2⟩
    · have h' := same sc e h
      obtain ⟨ea, o, eb, p, rfl, _⟩ := inv h'
      exact ⟨h', .inr ⟨_, _, _, _, rfl⟩⟩
    · obtain ⟨ea, o, eb, p, e, h0, h1, h2, h3⟩ := inv (same sc _ h)
      rw [e]
      obtain ⟨ta, q1, q2⟩ := iha.E C sc W _ c h1
      obtain ⟨tb, k1, k2⟩ := ihb.E C sc W _ c h2
      exact ⟨_, pt_cmpR (rC_o c h0) q1 k1 h3, sim_test (sim_cmp (rC_s op) q2 k2)⟩
  | chain op oq a b cc iha ihb ihc =>
    have inv : ∀ {sc : Scope} {e : Expr}, chkE ck (.chain op oq a b cc) sc e = true → ∃ ea o q eb ec p, e = .Compare ea [o, q] [eb, ec] p ∧ copB op o = true ∧ copB oq q = true ∧ chkE ck a sc ea = true ∧ chkE ck b sc eb = true ∧ chkE ck cc sc ec = true ∧ lastMarks [o, q] [eb, ec] = false := fun {sc e} h => by
      cases e with
      | Compare ea os es p =>
        match os, es, h with
        | [o, q], [eb, ec], h =>
          have h : (copB op o && copB oq q && chkE ck a sc ea && chkE ck b sc eb && chkE ck cc sc ec && !(lastMarks [o, q] [eb, ec])) = true := h
          simp only [Bool.and_eq_true, Bool.not_eq_true'] at h
          exact ⟨ea, o, q, eb, ec, p, rfl, h.1.1.1.1.1, h.1.1.1.1.2, h.1.1.1.2, h.1.1.2, h.1.2, h.2⟩
        | [], _, h => exact (Bool.false_ne_true h).elim
        | [_], _, h => exact (Bool.false_ne_true h).elim
        | [_, _], [], h => exact (Bool.false_ne_true h).elim
        | [_, _], [_], h => exact (Bool.false_ne_true h).elim
        | [_, _], _ :: _ :: _ :: _, h => exact (Bool.false_ne_true h).elim
        | _ :: _ :: _ :: _, _, h => exact (Bool.false_ne_true h).elim
      | _ => exact (Bool.false_ne_true h).elim
    have same : ∀ sc e, chkT ck (.chain op oq a b cc) sc e = true → chkE ck (.chain op oq a b cc) sc e = true := fun sc e h => by
      cases e with
      | Compare ea os es p =>
        match os, es, h with
        | [o, q], [eb, ec], h => exact h
        | [], _, h => exact (Bool.false_ne_true h).elim
        | [_], _, h => exact (Bool.false_ne_true h).elim
        | [_, _], [], h => exact (Bool.false_ne_true h).elim
        | [_, _], [_], h => exact (Bool.false_ne_true h).elim
        | [_, _], _ :: _ :: _ :: _, h => exact (Bool.false_ne_true h).elim
        | _ :: _ :: _ :: _, _, h => exact (Bool.false_ne_true h).elim
      | _ => exact (Bool.false_ne_true h).elim
    refine ofE_snd rfl (fun C sc W e c h => ?_) (fun C sc e h => ?_) (fun C sc W ea os es p c h => ?_) (fun _ _ _ h => (Bool.false_ne_true h).elim) (fun _ _ => rfl) (fun _ _ => rfl) (fun _ _ => rfl) (fun _ _ => rfl)
    · obtain ⟨ea, o, q, eb, ec, p, rfl, h0, h0', h1, h2, h3, h4⟩ := inv h
      obtain ⟨ta, q1, q2⟩ := iha.E C sc W _ c h1
      obtain ⟨tb, k1, k2⟩ := ihb.E C sc W _ c h2
      obtain ⟨tc, j1, j2⟩ := ihc.E C sc W _ c h3
      exact ⟨_, pe_chain (rC_o c h0) (rC_o c h0') q1 k1 j1 h4, sim_chain (rC_s op) (rC_s oq) q2 k2 j2⟩
    · have h' := same sc e h
      obtain ⟨ea, o, q, eb, ec, p, rfl, _⟩ := inv h'
      exact ⟨h', .inr ⟨_, _, _, _, rfl⟩⟩
    · obtain ⟨ea, o, q, eb, ec, p, e, h0, h0', h1, h2, h3, h4⟩ := inv (same sc _ h)
      rw [e]
      obtain ⟨ta, q1, q2⟩ := iha.E C sc W _ c h1
      obtain ⟨tb, k1, k2⟩ := ihb.E C sc W _ c h2
      obtain ⟨tc, j1, j2⟩ := ihc.E C sc W _ c h3
      exact ⟨_, pt_chain (rC_o c h0) (rC_o c h0') q1 k1 j1 h4, sim_test (sim_chain (rC_s op) (rC_s oq) q2 k2 j2)⟩
  | and a b iha ihb =>
    have hW : ∀ (C : Cx) (sc : Scope) (W : Nat → Hp → Prop) (e : Expr), CtxOk g ck sc W n C → (∃ ea eb es p, e = .BoolOp .And (ea :: eb :: es) p ∧ chkT ck a sc ea = true ∧ (tailB es (chkT ck b sc eb) (chkW ck b sc (.BoolOp .And (eb :: es) p))) = true) → SW g C W e (evT call (.and a b)) := fun C sc W e c h => by
      obtain ⟨ea, eb, es, p, rfl, h1, h2⟩ := h
      obtain ⟨ta, q1, q2⟩ := iha.T C sc W _ c h1
      obtain ⟨tb, k1, k2⟩ := andW_list ihb c h2
      exact ⟨_, pw_and q1 k1, sim_andT q2 k2⟩
    have inv : ∀ {sc : Scope} {e : Expr}, chkT ck (.and a b) sc e = true ∨ chkW ck (.and a b) sc e = true → ∃ ea eb es p, e = .BoolOp .And (ea :: eb :: es) p ∧ chkT ck a sc ea = true ∧ (tailB es (chkT ck b sc eb) (chkW ck b sc (.BoolOp .And (eb :: es) p))) = true := fun {sc e} h => by
      cases e with
      | BoolOp o vs p =>
        match o, vs, h with
        | .And, ea :: eb :: es, h =>
          have h : (chkT ck a sc ea && (tailB es (chkT ck b sc eb) (chkW ck b sc (.BoolOp .And (eb :: es) p)))) = true := by
            rcases h with h | h
            · exact h
            · exact h
          rw [Bool.and_eq_true] at h
          exact ⟨ea, eb, es, p, rfl, h.1, h.2⟩
        | .And, [], h => exact h.elim (fun h => (Bool.false_ne_true h).elim) fun h => (Bool.false_ne_true h).elim
        | .And, [_], h => exact h.elim (fun h => (Bool.false_ne_true h).elim) fun h => (Bool.false_ne_true h).elim
        | .Or, _, h => exact h.elim (fun h => (Bool.false_ne_true h).elim) fun h => (Bool.false_ne_true h).elim
      | _ => exact h.elim (fun h => (Bool.false_ne_true h).elim) fun h => (Bool.false_ne_true h).elim
    refine ⟨fun C sc W e c h => ?_, fun C sc W e c h => ?_, fun C sc W e c h => hW C sc W e c (inv (.inr h)), fun C sc W e c h => (Bool.false_ne_true h).elim, fun C sc W e c h => (Bool.false_ne_true h).elim, fun C sc W e c h => (Bool.false_ne_true h).elim, fun C sc W tg e c h => (Bool.false_ne_true h).elim⟩
    · cases e with
      | BoolOp o vs p =>
        match o, vs, h with
        | .And, ea :: eb :: es, h =>
          have h : (chkE ck a sc ea && (tailB es (chkE ck b sc eb) (chkE ck b sc (.BoolOp .And (eb :: es) p)))) = true := h
          rw [Bool.and_eq_true] at h
          obtain ⟨ta, q1, q2⟩ := iha.E C sc W _ c h.1
          obtain ⟨tb, k1, k2⟩ := and_list ihb c h.2
          exact ⟨_, pe_and q1 k1, sim_andV q2 k2⟩
        | .And, [], h => exact (Bool.false_ne_true h).elim
        | .And, [_], h => exact (Bool.false_ne_true h).elim
        | .Or, _, h => exact (Bool.false_ne_true h).elim
      | _ => exact (Bool.false_ne_true h).elim
    · obtain ⟨t, h1, h2⟩ := hW C sc W e c (inv (.inl h))
      exact ⟨t, h1.pt, h2⟩
  | or a b iha ihb =>
    have hW : ∀ (C : Cx) (sc : Scope) (W : Nat → Hp → Prop) (e : Expr), CtxOk g ck sc W n C → (∃ ea eb es p, e = .BoolOp .Or (ea :: eb :: es) p ∧ chkT ck a sc ea = true ∧ (tailB es (chkT ck b sc eb) (chkW ck b sc (.BoolOp .Or (eb :: es) p))) = true) → SW g C W e (evT call (.or a b)) := fun C sc W e c h => by
      obtain ⟨ea, eb, es, p, rfl, h1, h2⟩ := h
      obtain ⟨ta, q1, q2⟩ := iha.T C sc W _ c h1
      obtain ⟨tb, k1, k2⟩ := orW_list ihb c h2
      exact ⟨_, pw_or q1 k1, sim_orT q2 k2⟩
    have inv : ∀ {sc : Scope} {e : Expr}, chkT ck (.or a b) sc e = true ∨ chkW ck (.or a b) sc e = true → ∃ ea eb es p, e = .BoolOp .Or (ea :: eb :: es) p ∧ chkT ck a sc ea = true ∧ (tailB es (chkT ck b sc eb) (chkW ck b sc (.BoolOp .Or (eb :: es) p))) = true := fun {sc e} h => by
      cases e with
      | BoolOp o vs p =>
        match o, vs, h with
        | .Or, ea :: eb :: es, h =>
          have h : (chkT ck a sc ea && (tailB es (chkT ck b sc eb) (chkW ck b sc (.BoolOp .Or (eb :: es) p)))) = true := by
            rcases h with h | h
            · exact h
            · exact h
          rw [Bool.and_eq_true] at h
          exact ⟨ea, eb, es, p, rfl, h.1, h.2⟩
        | .Or, [], h => exact h.elim (fun h => (Bool.false_ne_true h).elim) fun h => (Bool.false_ne_true h).elim
        | .Or, [_], h => exact h.elim (fun h => (Bool.false_ne_true h).elim) fun h => (Bool.false_ne_true h).elim
        | .And, _, h => exact h.elim (fun h => (Bool.false_ne_true h).elim) fun h => (Bool.false_ne_true h).elim
      | _ => exact h.elim (fun h => (Bool.false_ne_true h).elim) fun h => (Bool.false_ne_true h).elim
    refine ⟨fun C sc W e c h => ?_, fun C sc W e c h => ?_, fun C sc W e c h => hW C sc W e c (inv (.inr h)), fun C sc W e c h => (Bool.false_ne_true h).elim, fun C sc W e c h => (Bool.false_ne_true h).elim, fun C sc W e c h => (Bool.false_ne_true h).elim, fun C sc W tg e c h => (Bool.false_ne_true h).elim⟩
    · cases e with
      | BoolOp o vs p =>
        match o, vs, h with
        | .Or, ea :: eb :: es, h =>
          have h : (chkE ck a sc ea && (tailB es (chkE ck b sc eb) (chkE ck b sc (.BoolOp .Or (eb :: es) p)))) = true := h
          rw [Bool.and_eq_true] at h
          obtain ⟨ta, q1, q2⟩ := iha.E C sc W _ c h.1
          obtain ⟨tb, k1, k2⟩ := and_list ihb c h.2
          exact ⟨_, pe_or q1 k1, sim_orV q2 k2⟩
        | .Or, [], h => exact (Bool.false_ne_true h).elim
        | .Or, [_], h => exact (Bool.false_ne_true h).elim
        | .And, _, h => exact (Bool.false_ne_true h).elim
      | _ => exact (Bool.false_ne_true h).elim
    · obtain ⟨t, h1, h2⟩ := hW C sc W e c (inv (.inl h))
      exact ⟨t, h1.pt, h2⟩
  | not a iha =>
    refine ⟨fun C sc W e c h => ?_, fun C sc W e c h => ?_, fun C sc W e c h => (Bool.false_ne_true h).elim, fun C sc W e c h => (Bool.false_ne_true h).elim, fun C sc W e c h => (Bool.false_ne_true h).elim, fun C sc W e c h => (Bool.false_ne_true h).elim, fun C sc W tg e c h => (Bool.false_ne_true h).elim⟩
    · cases e with
      | UnaryOp o ea p => cases o with
        | Not =>
          obtain ⟨ta, q1, q2⟩ := iha.E C sc W _ c h
          exact ⟨_, pe_not q1, sim_notV q2⟩
        | _ => exact (Bool.false_ne_true h).elim
      | _ => exact (Bool.false_ne_true h).elim
    · cases e with
      | UnaryOp o ea p => cases o with
        | Not =>
          obtain ⟨ta, q1, q2⟩ := iha.T C sc W _ c h
          exact ⟨_, pt_not q1, sim_notT q2⟩
        | _ => exact (Bool.false_ne_true h).elim
      | _ => exact (Bool.false_ne_true h).elim
  | ite t a b iht iha ihb =>
    refine constE rfl (fun C sc W e c h => ?_) (fun _ _ => rfl) (fun _ _ _ => rfl) (fun _ _ => rfl) (fun _ _ => rfl) (fun _ _ => rfl) (fun _ _ => rfl)
    cases e with
    | IfExp et ea eb p =>
      have h : (chkT ck t sc et && chkE ck a sc ea && chkE ck b sc eb) = true := h
      simp only [Bool.and_eq_true] at h
      obtain ⟨⟨h0, h1⟩, h2⟩ := h
      obtain ⟨tt, j1, j2⟩ := iht.T C sc W _ c h0
      obtain ⟨ta, q1, q2⟩ := iha.E C sc W _ c h1
      obtain ⟨tb, k1, k2⟩ := ihb.E C sc W _ c h2
      exact ⟨_, pe_ifExp j1 q1 k1, sim_if j2 q2 k2⟩
    | _ => exact (Bool.false_ne_true h).elim
  | tup as ih =>
    have key : ∀ (C : Cx) (sc : Scope) (W : Nat → Hp → Prop) (e : Expr), CtxOk g ck sc W n C → chkE ck (.tup as) sc e = true → SE g C W e (fun r => (evs call as).A r >>= fun ds => lenT ds (.tup ds)) := fun C sc W e c h => by
      cases e with
      | Tuple es k p =>
        obtain ⟨ta, q1, q2⟩ := ih.A C sc W _ c h
        exact ⟨_, pe_tup q1.1, sim_tup q2⟩
      | _ => exact (Bool.false_ne_true h).elim
    refine ofE_snd rfl key (fun C sc e h => (Bool.false_ne_true h).elim) (fun _ _ _ _ _ _ _ _ h => (Bool.false_ne_true h).elim) (fun sc tg e h => ?_) (fun _ _ => rfl) (fun _ _ => rfl) (fun _ _ => rfl) (fun _ _ => rfl)
    cases e with
    | Tuple es k p => exact h
    | _ => exact (Bool.false_ne_true h).elim
  | lst as ih =>
    have key : ∀ (C : Cx) (sc : Scope) (W : Nat → Hp → Prop) (e : Expr), CtxOk g ck sc W n C → chkE ck (.lst as) sc e = true → SE g C W e (fun r => (evs call as).A r >>= fun ds => lenT ds (.new ds)) := fun C sc W e c h => by
      cases e with
      | List es p =>
        obtain ⟨ta, q1, q2⟩ := ih.A C sc W _ c h
        exact ⟨_, pe_lst q1.1, sim_lst q2⟩
      | _ => exact (Bool.false_ne_true h).elim
    refine ofE_snd rfl key (fun C sc e h => (Bool.false_ne_true h).elim) (fun _ _ _ _ _ _ _ _ h => (Bool.false_ne_true h).elim) (fun sc tg e h => ?_) (fun _ _ => rfl) (fun _ _ => rfl) (fun _ _ => rfl) (fun _ _ => rfl)
    cases e with
    | List es p => exact h
    | _ => exact (Bool.false_ne_true h).elim
  | nil =>
    refine ⟨fun C sc W e c h => (Bool.false_ne_true h).elim, fun C sc W e c h => (Bool.false_ne_true h).elim, fun C sc W e c h => (Bool.false_ne_true h).elim, fun C sc W e c h => ?_, fun C sc W e c h => ?_, fun C sc W e c h => (Bool.false_ne_true h).elim, fun C sc W tg e c h => (Bool.false_ne_true h).elim⟩
    · cases e with
      | nil => exact ⟨_, ⟨pa_nil, fun kws hk => by cases List.map_eq_nil_iff.mp hk; exact pk_nil⟩, sim_nilA⟩
      | cons _ _ => exact (Bool.false_ne_true h).elim
    · cases e with
      | nil => exact ⟨_, pa_nil, sim_nilR⟩
      | cons _ _ => exact (Bool.false_ne_true h).elim
  | cons a as iha ihs =>
    refine ⟨fun C sc W e c h => (Bool.false_ne_true h).elim, fun C sc W e c h => (Bool.false_ne_true h).elim, fun C sc W e c h => (Bool.false_ne_true h).elim, fun C sc W e c h => ?_, fun C sc W e c h => ?_, fun C sc W e c h => (Bool.false_ne_true h).elim, fun C sc W tg e c h => (Bool.false_ne_true h).elim⟩
    · cases e with
      | nil => exact (Bool.false_ne_true h).elim
      | cons e es =>
        have h : (chkE ck a sc e && plainE e && chkA ck as sc es) = true := h
        simp only [Bool.and_eq_true] at h
        obtain ⟨ta, q1, q2⟩ := iha.E C sc W _ c h.1.1
        obtain ⟨tb, k1, k2⟩ := ihs.A C sc W _ c h.2
        refine ⟨_, ⟨pa_cons q1 k1.1 (plain_star h.1.2), fun kws hk => ?_⟩, sim_consA q2 k2⟩
        cases kws with
        | nil => cases hk
        | cons kw kws =>
          obtain ⟨nm, e', kp⟩ := kw
          cases hk
          exact pk_cons q1 (k1.2 kws rfl)
    · cases e with
      | nil => exact (Bool.false_ne_true h).elim
      | cons e es =>
        have h : (chkE ck a sc e && plainE e && chkR ck as sc es) = true := h
        simp only [Bool.and_eq_true] at h
        obtain ⟨ta, q1, q2⟩ := iha.E C sc W _ c h.1.1
        obtain ⟨tb, k1, k2⟩ := ihs.R C sc W _ c h.2
        exact ⟨_, pa_cons q1 k1 (plain_star h.1.2), sim_consR q2 k2⟩
  | idx a i iha ihi =>
    have key : ∀ (C : Cx) (sc : Scope) (W : Nat → Hp → Prop) (e : Expr), CtxOk g ck sc W n C → chkE ck (.idx a i) sc e = true → SE g C W e (fun r => (evs call a).E r >>= fun x => (evs call i).E r >>= fun y => idxT x y) := fun C sc W e c h => by
      cases e with
      | Subscript ea ei p =>
        have h : (chkE ck a sc ea && chkE ck i sc ei && plainIxB ei) = true := by
          cases ei <;> first
            | exact h
            | exact (Bool.false_ne_true h).elim
        simp only [Bool.and_eq_true] at h
        obtain ⟨ta, q1, q2⟩ := iha.E C sc W _ c h.1.1
        obtain ⟨tb, k1, k2⟩ := ihi.E C sc W _ c h.1.2
        have e1 : IxR C (rIx g.K) := by rw [← c.K]; exact ix_seq
        exact ⟨_, pe_ix e1 q1 k1 (plainIx_ok h.2), sim_op ops_idx q2 k2⟩
      | _ => exact (Bool.false_ne_true h).elim
    refine ofE_snd rfl key (fun C sc e h => (Bool.false_ne_true h).elim) (fun _ _ _ _ _ _ _ _ h => (Bool.false_ne_true h).elim) (fun sc tg e h => ?_) (fun _ _ => rfl) (fun _ _ => rfl) (fun _ _ => rfl) (fun _ _ => rfl)
    cases e with
    | Subscript ea ei p => cases ei <;> exact h
    | _ => exact (Bool.false_ne_true h).elim
  | slc a lo hi iha ihl ihh =>
    have key : ∀ (C : Cx) (sc : Scope) (W : Nat → Hp → Prop) (e : Expr), CtxOk g ck sc W n C → chkE ck (.slc a lo hi) sc e = true → SE g C W e (fun r => (evs call a).E r >>= fun x => (evs call lo).O r >>= fun l => (evs call hi).O r >>= fun h => slcT x l h) := fun C sc W e c h => by
      cases e with
      | Subscript ea ei p => cases ei with
        | Slice l hh st p2 => cases st with
          | none =>
            have h : (chkE ck a sc ea && chkO ck lo sc l && chkO ck hi sc hh) = true := h
            simp only [Bool.and_eq_true] at h
            obtain ⟨ta, q1, q2⟩ := iha.E C sc W _ c h.1.1
            obtain ⟨tl, k1, k2⟩ := ihl.O C sc W _ c h.1.2
            obtain ⟨th, j1, j2⟩ := ihh.O C sc W _ c h.2
            have e1 : SlR C (fun x lo hi H Q => rSlL g.K x lo hi H Q ∨ rSlA g.K x lo hi H Q) := by rw [← c.K]; exact sl_list.or sl_tupA
            exact ⟨_, pe_slice e1 q1 k1 j1, sim_slc q2 k2 j2⟩
          | some _ => exact (Bool.false_ne_true h).elim
        | _ => exact (Bool.false_ne_true h).elim
      | _ => exact (Bool.false_ne_true h).elim
    refine ofE_snd rfl key (fun C sc e h => (Bool.false_ne_true h).elim) (fun _ _ _ _ _ _ _ _ h => (Bool.false_ne_true h).elim) (fun sc tg e h => ?_) (fun _ _ => rfl) (fun _ _ => rfl) (fun _ _ => rfl) (fun _ _ => rfl)
    cases e with
    | Subscript ea ei p => cases ei with
      | Slice l hh st p2 => cases st with
        | none => exact h
        | some _ => exact (Bool.false_ne_true h).elim
      | _ => exact (Bool.false_ne_true h).elim
    | _ => exact (Bool.false_ne_true h).elim
  | part a iha =>
    refine ⟨fun C sc W e c h => (Bool.false_ne_true h).elim, fun C sc W e c h => (Bool.false_ne_true h).elim, fun C sc W e c h => (Bool.false_ne_true h).elim, fun C sc W e c h => (Bool.false_ne_true h).elim, fun C sc W e c h => (Bool.false_ne_true h).elim, fun C sc W e c h => ?_, fun C sc W tg e c h => (Bool.false_ne_true h).elim⟩
    cases e with
    | none => exact (Bool.false_ne_true h).elim
    | some e =>
      obtain ⟨ta, q1, q2⟩ := iha.E C sc W _ c h
      exact ⟨_, po_some q1, sim_part q2⟩
  | nopart =>
    refine ⟨fun C sc W e c h => (Bool.false_ne_true h).elim, fun C sc W e c h => (Bool.false_ne_true h).elim, fun C sc W e c h => (Bool.false_ne_true h).elim, fun C sc W e c h => (Bool.false_ne_true h).elim, fun C sc W e c h => (Bool.false_ne_true h).elim, fun C sc W e c h => ?_, fun C sc W tg e c h => (Bool.false_ne_true h).elim⟩
    cases e with
    | none => exact ⟨_, po_none, sim_noPart⟩
    | some e => exact (Bool.false_ne_true h).elim
  | call f as ih =>
    have inv : ∀ {sc : Scope} {e : Expr}, chkE ck (.call f as) sc e = true → ∃ x p e' es pos, e = .Call (.Name x p) (e' :: es) [] pos ∧ (glB sc x && decide ((f, x, (e' :: es).length) ∈ ck.fns) && chkA ck as sc (e' :: es) && (e' :: es).all plainE) = true := fun {sc e} h => by
      cases e with
      | Call fn args kws pos => cases fn with
        | Name x p =>
          match args, kws, h with
          | e' :: es, [], h => exact ⟨x, p, e', es, pos, rfl, h⟩
          | [], _, h => exact (Bool.false_ne_true h).elim
          | _ :: _, _ :: _, h => exact (Bool.false_ne_true h).elim
        | _ => exact (Bool.false_ne_true h).elim
      | _ => exact (Bool.false_ne_true h).elim
    have key : ∀ (C : Cx) (sc : Scope) (W : Nat → Hp → Prop) (e : Expr), CtxOk g ck sc W n C → chkE ck (.call f as) sc e = true → SE g C W e (fun r => (evs call as).A r >>= fun ds => call f ds) := fun C sc W e c h => by
      obtain ⟨x, p, e', es, pos, rfl, h⟩ := inv h
      exact se_call c F ih h
    refine ofE_snd rfl key (fun C sc e h => ?_) (fun _ _ _ _ _ _ _ _ h => (Bool.false_ne_true h).elim) (fun sc tg e h => ?_) (fun _ _ => rfl) (fun _ _ => rfl) (fun _ _ => rfl) (fun _ _ => rfl)
    · cases e with
      | Call fn args kws pos => cases fn with
        | Name x p =>
          match args, kws, h with
          | e' :: es, [], h => exact ⟨h, .inl fun _ => rfl⟩
          | [], _, h => exact (Bool.false_ne_true h).elim
          | _ :: _, _ :: _, h => exact (Bool.false_ne_true h).elim
        | _ => exact (Bool.false_ne_true h).elim
      | _ => exact (Bool.false_ne_true h).elim
    · cases e with
      | Call fn args kws pos => cases fn with
        | Name x p =>
          match args, kws, h with
          | e' :: es, [], h => exact h
          | [], _, h => exact (Bool.false_ne_true h).elim
          | _ :: _, _ :: _, h => exact (Bool.false_ne_true h).elim
        | _ => exact (Bool.false_ne_true h).elim
      | _ => exact (Bool.false_ne_true h).elim
  | callK f perm as ih =>
    have inv : ∀ {sc : Scope} {e : Expr}, chkE ck (.callK f perm as) sc e = true → ∃ x p kws pos, e = .Call (.Name x p) [] kws pos ∧ (glB sc x && decide ((f, x, kwNames kws, perm) ∈ ck.kws) && kwSome kws && chkA ck as sc (kws.map (·.value))) = true := fun {sc e} h => by
      cases e with
      | Call fn args kws pos => cases fn with
        | Name x p =>
          match args, kws, h with
          | [], kw :: kws, h => exact ⟨x, p, kw :: kws, pos, rfl, h⟩
          | [], [], h => exact (Bool.false_ne_true h).elim
          | _ :: _, _, h => exact (Bool.false_ne_true h).elim
        | _ => exact (Bool.false_ne_true h).elim
      | _ => exact (Bool.false_ne_true h).elim
    have key : ∀ (C : Cx) (sc : Scope) (W : Nat → Hp → Prop) (e : Expr), CtxOk g ck sc W n C → chkE ck (.callK f perm as) sc e = true → SE g C W e (fun r => (evs call as).A r >>= fun ds => ofO (permD perm ds) >>= fun ds => call f ds) := fun C sc W e c h => by
      obtain ⟨x, p, kws, pos, rfl, h2⟩ := inv h
      exact se_callK c F ih h2
    refine ofE_snd rfl key (fun C sc e h => ?_) (fun _ _ _ _ _ _ _ _ h => (Bool.false_ne_true h).elim) (fun sc tg e h => ?_) (fun _ _ => rfl) (fun _ _ => rfl) (fun _ _ => rfl) (fun _ _ => rfl)
    · cases e with
      | Call fn args kws pos => cases fn with
        | Name x p =>
          match args, kws, h with
          | [], kw :: kws, h => exact ⟨h, .inl fun _ => rfl⟩
          | [], [], h => exact (Bool.false_ne_true h).elim
          | _ :: _, _, h => exact (Bool.false_ne_true h).elim
        | _ => exact (Bool.false_ne_true h).elim
      | _ => exact (Bool.false_ne_true h).elim
    · cases e with
      | Call fn args kws pos => cases fn with
        | Name x p =>
          match args, kws, h with
          | [], kw :: kws, h => exact h
          | [], [], h => exact (Bool.false_ne_true h).elim
          | _ :: _, _, h => exact (Bool.false_ne_true h).elim
        | _ => exact (Bool.false_ne_true h).elim
      | _ => exact (Bool.false_ne_true h).elim
  | op0 o =>
    refine constE rfl (fun C sc W e c h => ?_) (fun _ _ => rfl) (fun _ _ _ => rfl) (fun _ _ => rfl) (fun _ _ => rfl) (fun _ _ => rfl) (fun _ _ => rfl)
    cases o
    have h : op0P .emp e = true := h
    unfold op0P at h
    split at h
    · exact ⟨_, pe_dnewK, sim_op0⟩
    · cases h
  | op1 o a iha =>
    have inv : ∀ {sc : Scope} {e : Expr}, (match op1P o e with | some ea => chkE ck a sc ea | none => false) = true → ∃ ea, op1P o e = some ea ∧ chkE ck a sc ea = true := fun {sc e} h => by
      cases q : op1P o e with
      | none => rw [q] at h; cases h
      | some ea => rw [q] at h; exact ⟨ea, rfl, h⟩
    refine ofE_snd rfl (fun C sc W e c h => ?_) (fun C sc e h => ?_) (fun C sc W ea os es p c h => ?_) (fun sc tg e h => ?_) (fun _ _ => rfl) (fun _ _ => rfl) (fun _ _ => rfl) (fun _ _ => rfl)
    · obtain ⟨ea, h1, h2⟩ := inv (sc := sc) (e := e) (by cases e <;> exact h)
      obtain ⟨t, q1, q2⟩ := iha.E C sc W _ c h2
      exact op1_ok c h1 q1 q2
    · obtain ⟨ea, h1, h2⟩ := inv (sc := sc) (e := e) (by cases e <;> exact h)
      refine ⟨?_, .inl (op1_test h1 _)⟩
      have h3 : (match op1P o e with | some ea => chkE ck a sc ea | none => false) = true := by rw [h1]; exact h2
      cases e <;> exact h3
    · obtain ⟨eb, h1, h2⟩ := inv (sc := sc) (e := .Compare ea os es p) h
      cases o
      cases h1
    · obtain ⟨ea, h1, h2⟩ := inv (sc := sc) (e := e) (by cases e <;> exact h)
      have h3 : (match op1P o e with | some ea => chkE ck a sc ea | none => false) = true := by rw [h1]; exact h2
      cases e <;> exact h3
  | callM f m perm as bs iha ihb =>
    have inv : ∀ {sc : Scope} {e : Expr}, chkE ck (.callM f m perm as bs) sc e = true → ∃ x p e' es kws pos, e = .Call (.Name x p) (e' :: es) kws pos ∧ (glB sc x && decide (m = es.length + 1) && decide ((f, x, m, kwNames kws, perm) ∈ ck.mws) && kwSome kws && chkA ck as sc (e' :: es) && (e' :: es).all plainE && chkA ck bs sc (kws.map (·.value))) = true := fun {sc e} h => by
      cases e with
      | Call fn args kws pos => cases fn with
        | Name x p =>
          match args, kws, h with
          | e' :: es, kw :: kws, h => exact ⟨x, p, e', es, kw :: kws, pos, rfl, h⟩
          | [], _, h => exact (Bool.false_ne_true h).elim
          | _ :: _, [], h => exact (Bool.false_ne_true h).elim
        | _ => exact (Bool.false_ne_true h).elim
      | _ => exact (Bool.false_ne_true h).elim
    have key : ∀ (C : Cx) (sc : Scope) (W : Nat → Hp → Prop) (e : Expr), CtxOk g ck sc W n C → chkE ck (.callM f m perm as bs) sc e = true → SE g C W e (fun r => (evs call as).A r >>= fun ds => (evs call bs).A r >>= fun es => ofO (permM m perm ds es) >>= fun ds => call f ds) := fun C sc W e c h => by
      obtain ⟨x, p, e', es, kws, pos, rfl, h2⟩ := inv h
      simp only [Bool.and_eq_true, decide_eq_true_eq] at h2
      obtain ⟨⟨⟨⟨⟨⟨h1, _⟩, h2⟩, h3⟩, h4⟩, h5⟩, h6⟩ := h2
      obtain ⟨t, q1, q2⟩ := iha.A C sc W _ c h4
      obtain ⟨t2, k1, k2⟩ := ihb.A C sc W _ c h6
      exact ⟨_, pe_fnm c F h2 h1 h3 q1.1 h5 (k1.2 kws rfl), sim_callM q2 k2⟩
    refine ofE_snd rfl key (fun C sc e h => ?_) (fun _ _ _ _ _ _ _ _ h => (Bool.false_ne_true h).elim) (fun sc tg e h => ?_) (fun _ _ => rfl) (fun _ _ => rfl) (fun _ _ => rfl) (fun _ _ => rfl)
    · cases e with
      | Call fn args kws pos => cases fn with
        | Name x p =>
          match args, kws, h with
          | e' :: es, kw :: kws, h => exact ⟨h, .inl fun _ => rfl⟩
          | [], _, h => exact (Bool.false_ne_true h).elim
          | _ :: _, [], h => exact (Bool.false_ne_true h).elim
        | _ => exact (Bool.false_ne_true h).elim
      | _ => exact (Bool.false_ne_true h).elim
    · cases e with
      | Call fn args kws pos => cases fn with
        | Name x p =>
          match args, kws, h with
          | e' :: es, kw :: kws, h => exact h
          | [], _, h => exact (Bool.false_ne_true h).elim
          | _ :: _, [], h => exact (Bool.false_ne_true h).elim
        | _ => exact (Bool.false_ne_true h).elim
      | _ => exact (Bool.false_ne_true h).elim
  | blt f as ih =>
    have key : ∀ (C : Cx) (sc : Scope) (W : Nat → Hp → Prop) (e : Expr), CtxOk g ck sc W n C → chkE ck (.blt f as) sc e = true → SE g C W e (fun r => (evs call as).R r >>= fun ds => bltT f ds) := fun C sc W e c h => by
      cases e with
      | Call fn args kws pos => cases fn with
        | Name x p =>
          match args, kws, h with
          | e' :: es, [], h => exact se_blt c F ih h
          | [], _, h => exact (Bool.false_ne_true h).elim
          | _ :: _, _ :: _, h => exact (Bool.false_ne_true h).elim
        | _ => exact (Bool.false_ne_true h).elim
      | _ => exact (Bool.false_ne_true h).elim
    refine ofE_snd rfl key (fun C sc e h => ?_) (fun _ _ _ _ _ _ _ _ h => (Bool.false_ne_true h).elim) (fun sc tg e h => ?_) (fun _ _ => rfl) (fun _ _ => rfl) (fun _ _ => rfl) (fun _ _ => rfl)
    · cases e with
      | Call fn args kws pos => cases fn with
        | Name x p =>
          match args, kws, h with
          | e' :: es, [], h => exact ⟨h, .inl fun _ => rfl⟩
          | [], _, h => exact (Bool.false_ne_true h).elim
          | _ :: _, _ :: _, h => exact (Bool.false_ne_true h).elim
        | _ => exact (Bool.false_ne_true h).elim
      | _ => exact (Bool.false_ne_true h).elim
    · cases e with
      | Call fn args kws pos => cases fn with
        | Name x p =>
          match args, kws, h with
          | e' :: es, [], h => exact h
          | [], _, h => exact (Bool.false_ne_true h).elim
          | _ :: _, _ :: _, h => exact (Bool.false_ne_true h).elim
        | _ => exact (Bool.false_ne_true h).elim
      | _ => exact (Bool.false_ne_true h).elim
  | isk f a ih =>
    have inv : ∀ {sc : Scope} {e : Expr}, chkE ck (.isk f a) sc e = true ∨ chkT ck (.isk f a) sc e = true → ∃ x p e' y p2 pos, e = .Call (.Name x p) [e', .Name y p2] [] pos ∧ (glB sc x && decide (x = bltName f) && glB sc y && decide (kindName f = some y) && chkE ck a sc e' && plainE e') = true := fun {sc e} h => by
      cases e with
      | Call fn args kws pos => cases fn with
        | Name x p =>
          match args, kws, h with
          | [e', e2], [], h => cases e2 with
            | Name y p2 => exact ⟨x, p, e', y, p2, pos, rfl, h.elim (fun h => h) fun h => h⟩
            | _ => exact h.elim (fun h => (Bool.false_ne_true h).elim) fun h => (Bool.false_ne_true h).elim
          | [], _, h => exact h.elim (fun h => (Bool.false_ne_true h).elim) fun h => (Bool.false_ne_true h).elim
          | [_], _, h => exact h.elim (fun h => (Bool.false_ne_true h).elim) fun h => (Bool.false_ne_true h).elim
          | [_, e2], _ :: _, h => cases e2 <;> exact h.elim (fun h => (Bool.false_ne_true h).elim) fun h => (Bool.false_ne_true h).elim
          | _ :: e2 :: _ :: _, _, h => cases e2 <;> exact h.elim (fun h => (Bool.false_ne_true h).elim) fun h => (Bool.false_ne_true h).elim
        | _ => exact h.elim (fun h => (Bool.false_ne_true h).elim) fun h => (Bool.false_ne_true h).elim
      | _ => exact h.elim (fun h => (Bool.false_ne_true h).elim) fun h => (Bool.false_ne_true h).elim
    refine ofE_snd rfl (fun C sc W e c h => ?_) (fun C sc e h => ?_) (fun _ _ _ _ _ _ _ _ h => (Bool.false_ne_true h).elim) (fun sc tg e h => (Bool.false_ne_true h).elim) (fun _ _ => rfl) (fun _ _ => rfl) (fun _ _ => rfl) (fun _ _ => rfl)
    · obtain ⟨x, p, e', y, p2, pos, rfl, h⟩ := inv (.inl h)
      exact se_isk c F ih h
    · obtain ⟨x, p, e', y, p2, pos, rfl, h⟩ := inv (.inr h)
      exact ⟨h, .inl fun _ => rfl⟩
  | caught nx b ih =>
    refine constE rfl (fun C sc W e c h => ?_) (fun _ _ => rfl) (fun _ _ _ => rfl) (fun _ _ => rfl) (fun _ _ => rfl) (fun _ _ => rfl) (fun _ _ => rfl)
    cases e with
    | Call fn args kws pos => cases fn with
      | Name x p =>
        match args, kws, h with
        | [e'], [], h =>
          cases e' with
          | Lambda params body scope lpos => exact se_caught c F ih h
          | _ => exact (Bool.false_ne_true h).elim
        | [], _, h => exact (Bool.false_ne_true h).elim
        | [e'], _ :: _, h => cases e' <;> exact (Bool.false_ne_true h).elim
        | e' :: _ :: _, _, h => cases e' <;> exact (Bool.false_ne_true h).elim
      | _ => exact (Bool.false_ne_true h).elim
    | _ => exact (Bool.false_ne_true h).elim
  | isx nx k a ih =>
    have inv : ∀ {sc : Scope} {e : Expr}, chkE ck (.isx nx k a) sc e = true ∨ chkT ck (.isx nx k a) sc e = true → ∃ x p e' y p2 pos, e = .Call (.Name x p) [e', .Name y p2] [] pos ∧ (glB sc x && decide (x = ("isinstance" : Str)) && glB sc y && decide ((k, y) ∈ ck.exs) && decide (ck.nx = nx) && chkE ck a sc e' && plainE e') = true := fun {sc e} h => by
      cases e with
      | Call fn args kws pos => cases fn with
        | Name x p =>
          match args, kws, h with
          | [e', e2], [], h => cases e2 with
            | Name y p2 => exact ⟨x, p, e', y, p2, pos, rfl, h.elim (fun h => h) fun h => h⟩
            | _ => exact h.elim (fun h => (Bool.false_ne_true h).elim) fun h => (Bool.false_ne_true h).elim
          | [], _, h => exact h.elim (fun h => (Bool.false_ne_true h).elim) fun h => (Bool.false_ne_true h).elim
          | [_], _, h => exact h.elim (fun h => (Bool.false_ne_true h).elim) fun h => (Bool.false_ne_true h).elim
          | [_, e2], _ :: _, h => cases e2 <;> exact h.elim (fun h => (Bool.false_ne_true h).elim) fun h => (Bool.false_ne_true h).elim
          | _ :: e2 :: _ :: _, _, h => cases e2 <;> exact h.elim (fun h => (Bool.false_ne_true h).elim) fun h => (Bool.false_ne_true h).elim
        | _ => exact h.elim (fun h => (Bool.false_ne_true h).elim) fun h => (Bool.false_ne_true h).elim
      | _ => exact h.elim (fun h => (Bool.false_ne_true h).elim) fun h => (Bool.false_ne_true h).elim
    refine ofE_snd rfl (fun C sc W e c h => ?_) (fun C sc e h => ?_) (fun _ _ _ _ _ _ _ _ h => (Bool.false_ne_true h).elim) (fun sc tg e h => (Bool.false_ne_true h).elim) (fun _ _ => rfl) (fun _ _ => rfl) (fun _ _ => rfl) (fun _ _ => rfl)
    · obtain ⟨x, p, e', y, p2, pos, rfl, h⟩ := inv (.inl h)
      exact se_isx c F ih h
    · obtain ⟨x, p, e', y, p2, pos, rfl, h⟩ := inv (.inr h)
      exact ⟨h, .inl fun _ => rfl⟩
  | comp tg it cond elt own ihi ihc ihe =>
    refine constE rfl (fun C sc W e c h => ?_) (fun _ _ => rfl) (fun _ _ _ => rfl) (fun _ _ => rfl) (fun _ _ => rfl) (fun _ _ => rfl) (fun _ _ => rfl)
    cases e with
    | ListComp el gens scope pos =>
      match gens, h with
      | [⟨tge, ite, ifs, asy⟩], h =>
        by_cases ha : asy = 0
        · subst ha
          have h : (blkC ck.N sc scope own && decide (ck.lam ≠ some (relS scope sc)) && tgCell ck (relS scope sc) (fun x => scope.names.lookup x == some .cell) tg tge && tgIn own tg && notSetB ite && chkI ck it sc tge ite && condB ifs (isYes cond) (chkT ck cond (relS scope sc)) && chkE ck elt (relS scope sc) el) = true := h
          simp only [Bool.and_eq_true] at h
          obtain ⟨⟨⟨⟨⟨⟨⟨h1, h0⟩, h2⟩, h3⟩, h4⟩, h5⟩, h6⟩, h7⟩ := h
          have h0 := of_decide_eq_true h0
          obtain ⟨wi, q1, q2⟩ := ihi.I C sc W _ _ c h5
          have hb : BlkOk C.N C.env.scope scope own := by
            rw [c.N, c.sc]
            exact blkOk_by h1
          have hN : C.N.Nodup := by rw [c.N]; exact F.nd
          have e1 : evT call cond = (evs call cond).B := rfl
          -- the parts, whatever the block's own heap
          have blk := fun (s : Shared) (H : Hp) (A : Addr) (cl : List (Str × Addr)) (fp : List Addr) => c.blk s H scope A cl fp h0
          obtain ⟨gt, hg, sg⟩ := tg_any c F h0 h2
          obtain ⟨te, he, se⟩ := E_any ihe c h0 h7
          have hc : ∃ tt, (∀ (s : Shared) (H : Hp) (A : Addr) (cl : List (Str × Addr)) (fp : List Addr), PTs (C.blk s H scope (compEnvC scope cl A C.env) fp) ifs tt) ∧ SimB g (fun _ _ => False) tt (evs call cond).B := by
            match ifs, h6 with
            | [], h6 =>
              cases cond <;> first
                | exact (Bool.false_ne_true h6).elim
                | exact ⟨_, fun _ _ _ _ _ => pts_nil, sim_yes⟩
            | [cc], h6 =>
              obtain ⟨tt, k1, k2⟩ := B_any ihc c h0 h6
              exact ⟨tt, fun s H A cl fp => pts_one (k1 s H A cl fp), k2⟩
            | _ :: _ :: _, h6 => exact (Bool.false_ne_true h6).elim
          obtain ⟨tt, ht, st⟩ := hc
          exact ⟨_, pe_lc c.calm hN q1 hb hg ht he (notSet_ok h4), sim_comp q2 sg st se (tgIn_ok h3)⟩
        · exfalso
          match asy, ha, h with
          | .ofNat 0, ha, _ => exact ha rfl
          | .ofNat (_ + 1), _, h => exact Bool.false_ne_true h
          | .negSucc _, _, h => exact Bool.false_ne_true h
      | [], h => exact (Bool.false_ne_true h).elim
      | ⟨_, _, _, asy⟩ :: _ :: _, h =>
        exfalso
        match asy, h with
        | .ofNat 0, h => exact Bool.false_ne_true h
        | .ofNat (_ + 1), h => exact Bool.false_ne_true h
        | .negSucc _, h => exact Bool.false_ne_true h
    | _ => exact (Bool.false_ne_true h).elim
  | yes =>
    refine ⟨fun C sc W e c h => (Bool.false_ne_true h).elim, fun C sc W e c h => (Bool.false_ne_true h).elim, fun C sc W e c h => (Bool.false_ne_true h).elim, fun C sc W e c h => (Bool.false_ne_true h).elim, fun C sc W e c h => (Bool.false_ne_true h).elim, fun C sc W e c h => (Bool.false_ne_true h).elim, fun C sc W tg e c h => (Bool.false_ne_true h).elim⟩
  | cap a iha =>
    refine ⟨fun C sc W e c h => (Bool.false_ne_true h).elim, fun C sc W e c h => (Bool.false_ne_true h).elim, fun C sc W e c h => (Bool.false_ne_true h).elim, fun C sc W e c h => (Bool.false_ne_true h).elim, fun C sc W e c h => (Bool.false_ne_true h).elim, fun C sc W e c h => (Bool.false_ne_true h).elim, fun C sc W tg e c h => ?_⟩
    obtain ⟨ti, q1, q2⟩ := iha.I C sc W tg e c h
    exact ⟨ti, q1, simI_cap q2⟩
  | rng1 a iha =>
    refine ⟨fun C sc W e c h => (Bool.false_ne_true h).elim, fun C sc W e c h => (Bool.false_ne_true h).elim, fun C sc W e c h => (Bool.false_ne_true h).elim, fun C sc W e c h => (Bool.false_ne_true h).elim, fun C sc W e c h => (Bool.false_ne_true h).elim, fun C sc W e c h => (Bool.false_ne_true h).elim, fun C sc W tg e c h => ?_⟩
    cases e with
    | Call fn args kws pos => cases fn with
      | Name x p =>
        match args, kws, h with
        | [e], [], h =>
          have h : (glB sc x && decide (x = ("range" : Str)) && chkE ck a sc e && plainE e) = true := h
          simp only [Bool.and_eq_true, decide_eq_true_eq] at h
          obtain ⟨⟨⟨h1, h2⟩, h3⟩, h4⟩ := h
          subst h2
          obtain ⟨ta, q1, q2⟩ := iha.E C sc W _ c h3
          exact ⟨_, pi_range1 (c.gl h1) (c.free F (by decide +kernel)) (pa_cons q1 pa_nil (plain_star h4)) (by rw [plain_star h4]; rfl), simI_rng1 q2⟩
        | [], _, h => exact (Bool.false_ne_true h).elim
        | [_], _ :: _, h => exact (Bool.false_ne_true h).elim
        | _ :: _ :: _, _, h => exact (Bool.false_ne_true h).elim
      | _ => exact (Bool.false_ne_true h).elim
    | _ => exact (Bool.false_ne_true h).elim
  | rng2 a b iha ihb =>
    refine ⟨fun C sc W e c h => (Bool.false_ne_true h).elim, fun C sc W e c h => (Bool.false_ne_true h).elim, fun C sc W e c h => (Bool.false_ne_true h).elim, fun C sc W e c h => (Bool.false_ne_true h).elim, fun C sc W e c h => (Bool.false_ne_true h).elim, fun C sc W e c h => (Bool.false_ne_true h).elim, fun C sc W tg e c h => ?_⟩
    cases e with
    | Call fn args kws pos => cases fn with
      | Name x p =>
        match args, kws, h with
        | [e, f], [], h =>
          have h : (glB sc x && decide (x = ("range" : Str)) && chkE ck a sc e && chkE ck b sc f && plainE e && plainE f) = true := h
          simp only [Bool.and_eq_true, decide_eq_true_eq] at h
          obtain ⟨⟨⟨⟨⟨h1, h2⟩, h3⟩, h4⟩, h5⟩, h6⟩ := h
          subst h2
          obtain ⟨ta, q1, q2⟩ := iha.E C sc W _ c h3
          obtain ⟨tb, k1, k2⟩ := ihb.E C sc W _ c h4
          exact ⟨_, pi_range2 (c.gl h1) (c.free F (by decide +kernel)) (pa_cons q1 (pa_cons k1 pa_nil (plain_star h6)) (plain_star h5)) (by rw [plain_star h5, plain_star h6]; rfl) (by rw [plain_star h6]; rfl), simI_rng2 q2 k2⟩
        | [], _, h => exact (Bool.false_ne_true h).elim
        | [_], _, h => exact (Bool.false_ne_true h).elim
        | [_, _], _ :: _, h => exact (Bool.false_ne_true h).elim
        | _ :: _ :: _ :: _, _, h => exact (Bool.false_ne_true h).elim
      | _ => exact (Bool.false_ne_true h).elim
    | _ => exact (Bool.false_ne_true h).elim
  | zip a b iha ihb =>
    refine ⟨fun C sc W e c h => (Bool.false_ne_true h).elim, fun C sc W e c h => (Bool.false_ne_true h).elim, fun C sc W e c h => (Bool.false_ne_true h).elim, fun C sc W e c h => (Bool.false_ne_true h).elim, fun C sc W e c h => (Bool.false_ne_true h).elim, fun C sc W e c h => (Bool.false_ne_true h).elim, fun C sc W tg e c h => ?_⟩
    cases tg with
    | Tuple ts k tp =>
      cases e with
      | Call fn args kws pos => cases fn with
        | Name x p =>
          match args, kws, h with
          | [e, f], [], h =>
            have h : (glB sc x && decide (x = ("zip" : Str)) && chkE ck a sc e && chkE ck b sc f && plainE e && plainE f) = true := h
            simp only [Bool.and_eq_true, decide_eq_true_eq] at h
            obtain ⟨⟨⟨⟨⟨h1, h2⟩, h3⟩, h4⟩, h5⟩, h6⟩ := h
            subst h2
            obtain ⟨ta, q1, q2⟩ := iha.E C sc W _ c h3
            obtain ⟨tb, k1, k2⟩ := ihb.E C sc W _ c h4
            have e1 : PI C (.Tuple ts k tp) (.Call (.Name "zip" p) [e, f] [] pos) (RZ.iZipA g.K (tCons ta (tCons tb tNil))) := by
              rw [← c.K]
              exact RZ.pi_zipA (c.gl h1) (c.free F (by decide +kernel)) (pa_cons q1 (pa_cons k1 pa_nil (plain_star h6)) (plain_star h5)) (plain_star h5) (by rw [plain_star h6]; rfl)
            exact ⟨_, e1, simI_zip q2 k2⟩
          | [], _, h => exact (Bool.false_ne_true h).elim
          | [_], _, h => exact (Bool.false_ne_true h).elim
          | [_, _], _ :: _, h => exact (Bool.false_ne_true h).elim
          | _ :: _ :: _ :: _, _, h => exact (Bool.false_ne_true h).elim
        | _ => exact (Bool.false_ne_true h).elim
      | _ => exact (Bool.false_ne_true h).elim
    | _ => exact (Bool.false_ne_true h).elim
  | enum a iha =>
    refine ⟨fun C sc W e c h => (Bool.false_ne_true h).elim, fun C sc W e c h => (Bool.false_ne_true h).elim, fun C sc W e c h => (Bool.false_ne_true h).elim, fun C sc W e c h => (Bool.false_ne_true h).elim, fun C sc W e c h => (Bool.false_ne_true h).elim, fun C sc W e c h => (Bool.false_ne_true h).elim, fun C sc W tg e c h => ?_⟩
    cases tg with
    | Tuple ts k tp =>
      cases e with
      | Call fn args kws pos => cases fn with
        | Name x p =>
          match args, kws, h with
          | [e], [], h =>
            have h : (glB sc x && decide (x = ("enumerate" : Str)) && chkE ck a sc e && plainE e) = true := h
            simp only [Bool.and_eq_true, decide_eq_true_eq] at h
            obtain ⟨⟨⟨h1, h2⟩, h3⟩, h4⟩ := h
            subst h2
            obtain ⟨ta, q1, q2⟩ := iha.E C sc W _ c h3
            have e1 : PI C (.Tuple ts k tp) (.Call (.Name "enumerate" p) [e] [] pos) (iEnum g.K (tCons ta tNil)) := by
              rw [← c.K]
              exact pi_enum (c.gl h1) (c.free F (by decide +kernel)) (pa_cons q1 pa_nil (plain_star h4)) (by rw [plain_star h4]; rfl)
            exact ⟨_, e1, simI_enum q2⟩
          | [], _, h => exact (Bool.false_ne_true h).elim
          | [_], _ :: _, h => exact (Bool.false_ne_true h).elim
          | _ :: _ :: _, _, h => exact (Bool.false_ne_true h).elim
        | _ => exact (Bool.false_ne_true h).elim
      | _ => exact (Bool.false_ne_true h).elim
    | _ => exact (Bool.false_ne_true h).elim
end
end PV
end
section
set_option maxHeartbeats 8000000
/-! PvS7: statements. -/
namespace PV
open PySem PySem.Spec PyProof.Rows L2
section
variable {g : G} {ck : Ck} {n : Nat} {call : Nat → List D → T D} {wh : Nat}
/-- within a def that was entered at Z0, H0 -/
structure SCfg (g : G) (Z0 H0 : Hp) (r : Env) (Z : Hp) (σ : L2.St) (H : Hp) : Prop where
  cfg : Cfg g r Z σ H
  stp : Step g Z0 H0 Z H
  own0 : ∀ (i : Nat) (xs : List D) (a : Addr), r[i]? = some (.own xs) → σ[i]? = some (some (.ref a)) → H0 a = none
  dist : ∀ (i j : Nat) (xs ys : List D) (a : Addr), i ≠ j → r[i]? = some (.own xs) → r[j]? = some (.own ys) → σ[i]? = some (some (.ref a)) → σ[j]? = some (some (.ref a)) → False
def PostF (g : G) (Z0 H0 Zl : Hp) (Dn : Ends) (m : Nat) : Fl → Prop
  | .nx r => ∀ Z σ H, SCfg g Z0 H0 r Z σ H → g.bud H = m → Sub Zl Z → Dn.nx σ H
  | .rt d => Post g Z0 H0 Dn.rt m d
  | .bk r => ∀ Z σ H, SCfg g Z0 H0 r Z σ H → g.bud H = m → Sub Zl Z → Dn.bk σ H
  | .ct r => ∀ Z σ H, SCfg g Z0 H0 r Z σ H → g.bud H = m → Sub Zl Z → Dn.ct σ H
def SimS (g : G) (W : Nat → Hp → Prop) (Z0 H0 : Hp) (t : TS) (f : Env → T Fl) : Prop := ∀ (r : Env) (Z : Hp) (σ : L2.St) (H : Hp) (Dn : Ends), SCfg g Z0 H0 r Z σ H → (f r).All (PostF g Z0 H0 Z Dn) (PostE g Z0 H0 W) (g.bud H) → t Dn σ H
theorem PostF.shift {Z0 H0 Z Z1 : Hp} {Dn : Ends} {f : Fl} {m : Nat} (s : Sub Z Z1) (h : PostF g Z0 H0 Z Dn m f) : PostF g Z0 H0 Z1 Dn m f := by
  cases f with
  | nx r => exact fun Z' σ H c e q => h Z' σ H c e fun a o e => q a o (s a o e)
  | rt d => exact h
  | bk r => exact fun Z' σ H c e q => h Z' σ H c e fun a o e => q a o (s a o e)
  | ct r => exact fun Z' σ H c e q => h Z' σ H c e fun a o e => q a o (s a o e)
theorem SCfg.step {Z0 H0 : Hp} {r : Env} {Z H Z' H' : Hp} {σ : L2.St} (c : SCfg g Z0 H0 r Z σ H) (s : Step g Z H Z' H') : SCfg g Z0 H0 r Z' σ H' := ⟨c.cfg.step s, c.stp.trans s, c.own0, c.dist⟩
theorem SCfg.sub {Z0 H0 : Hp} {r r2 : Env} {Z H : Hp} {σ σ2 : L2.St} (c : SCfg g Z0 H0 r Z σ H) (c2 : Cfg g r2 Z σ2 H) (os : OwnSub r σ r2 σ2) : SCfg g Z0 H0 r2 Z σ2 H := by
  refine ⟨c2, c.stp, fun i xs a h1 h2 => ?_, fun i j xs ys a hij h1 h2 h3 h4 => ?_⟩
  · obtain ⟨k1, k2⟩ := os i xs h1
    exact c.own0 i xs a k1 (by rw [← k2]; exact h2)
  · obtain ⟨k1, k2⟩ := os i xs h1
    obtain ⟨k3, k4⟩ := os j ys h2
    exact c.dist i j xs ys a hij k1 k3 (by rw [← k2]; exact h3) (by rw [← k4]; exact h4)
theorem SCfg.setVal {Z0 H0 : Hp} {r : Env} {Z H : Hp} {σ : L2.St} {i : Nat} {d : D} {v : V} (c : SCfg g Z0 H0 r Z σ H) (h : Rep g Z v d) : SCfg g Z0 H0 (r.set i (.val d)) Z (σ.set i (some v)) H :=
  c.sub (c.cfg.set ⟨v, rfl, h⟩) ownSub_set
theorem get_own {Z H : Hp} {r : Env} {σ : L2.St} (c : Cfg g r Z σ H) {i : Nat} {xs : List D} (h : r[i]? = some (.own xs)) : ∃ a vs, σ[i]? = some (some (.ref a)) ∧ H a = some (.lst vs) ∧ vs.length ≤ sizeLine ∧ ¬ g.F a ∧ Z a = none ∧ Reps g Z vs xs := by
  obtain ⟨o, h1, a, vs, rfl, h2⟩ := c.slot i _ h
  exact ⟨a, vs, h1, h2⟩
/-- a list of this def's becomes one's own -/
theorem SCfg.putOwn {Z0 H0 : Hp} {r : Env} {Z1 H1 : Hp} {σ : L2.St} {i : Nat} {xs : List D} {a : Addr} {vs : List V} (c1 : SCfg g Z0 H0 r Z1 σ H1) (h1 : H1 a = some (.lst vs)) (h2 : vs.length ≤ sizeLine) (h3 : ¬ g.F a) (h4 : Z1 a = none) (h5 : H0 a = none)
    (h6 : Reps g Z1 vs xs) (hne : ∀ (k : Nat) (ys : List D) (b : Addr), r[k]? = some (.own ys) → σ[k]? = some (some (.ref b)) → b ≠ a) : SCfg g Z0 H0 (r.set i (.own xs)) Z1 (σ.set i (some (.ref a))) H1 := by
  have spl : ∀ (k : Nat) (ys : List D) (b : Addr), (r.set i (Sl.own xs))[k]? = some (.own ys) → (σ.set i (some (V.ref a)))[k]? = some (some (.ref b)) → (k = i ∧ b = a) ∨ (k ≠ i ∧ r[k]? = some (.own ys) ∧ σ[k]? = some (some (.ref b))) := fun k ys b e1 e2 => by
    rw [List.getElem?_set] at e1 e2
    by_cases e : i = k
    · rw [if_pos e] at e1 e2
      left
      refine ⟨e.symm, ?_⟩
      split at e2
      · cases e2; rfl
      · cases e2
    · rw [if_neg e] at e1 e2
      exact .inr ⟨fun z => e z.symm, e1, e2⟩
  refine ⟨c1.cfg.set ⟨a, vs, rfl, h1, h2, h3, h4, h6⟩, c1.stp, fun k ys b e1 e2 => ?_, fun j k ys zs b hjk e1 e2 e3 e4 => ?_⟩
  · rcases spl k ys b e1 e2 with ⟨rfl, rfl⟩ | ⟨_, e1, e2⟩
    · exact h5
    · exact c1.own0 k ys b e1 e2
  · rcases spl j ys b e1 e3 with ⟨rfl, rfl⟩ | ⟨n1, e1, e3⟩
    · rcases spl k zs b e2 e4 with ⟨rfl, _⟩ | ⟨n2, e2, e4⟩
      · exact hjk rfl
      · exact hne k zs b e2 e4 rfl
    · rcases spl k zs b e2 e4 with ⟨rfl, rfl⟩ | ⟨n2, e2, e4⟩
      · exact hne j ys b (by assumption) (by assumption) rfl
      · exact c1.dist j k ys zs b hjk e1 e2 e3 e4
theorem SCfg.new0 {Z0 H0 : Hp} {r : Env} {Z H : Hp} {σ : L2.St} {a : Addr} (c : SCfg g Z0 H0 r Z σ H) (h3 : ¬ g.F a) (h5 : H a = none) : H0 a = none := by
  rcases none_or (H := H0) (a := a) with e | ⟨u, e⟩
  · exact e
  · rw [c.stp.h _ _ e h3] at h5; cases h5
theorem SCfg.newNe {Z0 H0 : Hp} {r : Env} {Z H : Hp} {σ : L2.St} {a : Addr} (c : SCfg g Z0 H0 r Z σ H) (h5 : H a = none) : ∀ (k : Nat) (ys : List D) (b : Addr), r[k]? = some (.own ys) → σ[k]? = some (some (.ref b)) → b ≠ a := fun k ys b e1 e2 z => by
  obtain ⟨b', vs', q1, q2, _⟩ := get_own c.cfg e1
  rw [e2] at q1; cases q1
  rw [z, h5] at q2; cases q2
theorem SCfg.setOwn {Z0 H0 : Hp} {r : Env} {Z H Z1 H1 : Hp} {σ : L2.St} {i : Nat} {xs : List D} {a : Addr} {vs : List V} (c : SCfg g Z0 H0 r Z σ H) (s : Step g Z H Z1 H1) (h1 : H1 a = some (.lst vs)) (h2 : vs.length ≤ sizeLine) (h3 : ¬ g.F a) (h4 : Z1 a = none) (h5 : H a = none)
    (h6 : Reps g Z1 vs xs) : SCfg g Z0 H0 (r.set i (.own xs)) Z1 (σ.set i (some (.ref a))) H1 :=
  (c.step s).putOwn h1 h2 h3 h4 (c.new0 h3 h5) h6 (c.newNe h5)
/-- several values at once -/
def setσ : List Nat → List V → L2.St → L2.St
  | i :: is, v :: vs, σ => setσ is vs (σ.set i (some v))
  | _, _, σ => σ
theorem SCfg.setMany {Z0 H0 H : Hp} {Z1 H1 : Hp} (h0 : ∀ a, ¬ g.F a → H a = none → H0 a = none) : ∀ (is : List Nat) (vs : List V) (ds : List D) (r r2 : Env) (σ : L2.St), SCfg g Z0 H0 r Z1 σ H1 → RepRs g H Z1 H1 vs ds → NewD vs ds →
    (∀ (m k : Nat) (xs ys : List D) (b : Addr), ds[m]? = some (.new xs) → vs[m]? = some (.ref b) → r[k]? = some (.own ys) → σ[k]? ≠ some (some (.ref b))) → parT is ds r = some r2 → SCfg g Z0 H0 r2 Z1 (setσ is vs σ) H1
  | [], _, [], r, _, σ, c, .nil, _, _, e => by
    cases e
    exact c
  | _ :: _, _, [], r, _, σ, c, .nil, _, _, e => by cases e
  | [], _, d :: ds, r, _, σ, c, .cons _ _, _, _, e => by cases e
  | i :: is, _, d :: ds, r, r2, σ, c, .cons (v := v) (vs := vs) rv rs, nd, hn, e => by
    unfold parT at e
    have nx : ∀ (s : Sl), (∀ (m k : Nat) (xs ys : List D) (b : Addr), ds[m]? = some (.new xs) → vs[m]? = some (.ref b) → (r.set i s)[k]? = some (.own ys) → (σ.set i (some v))[k]? ≠ some (some (.ref b))) → SCfg g Z0 H0 (r.set i s) Z1 (σ.set i (some v)) H1 → parT is ds (r.set i s) = some r2 → SCfg g Z0 H0 r2 Z1 (setσ (i :: is) (v :: vs) σ) H1 := fun s h c2 e2 =>
      SCfg.setMany h0 is vs ds _ r2 _ c2 rs nd.2 h e2
    have old : ∀ (dd : D), (∀ (m k : Nat) (xs ys : List D) (b : Addr), ds[m]? = some (.new xs) → vs[m]? = some (.ref b) → (r.set i (.val dd))[k]? = some (.own ys) → (σ.set i (some v))[k]? ≠ some (some (.ref b))) := fun dd m k xs ys b e1 e2 e3 e4 => by
      obtain ⟨k1, k2⟩ := ownSub_set (σ := σ) (o := some v) k ys e3
      exact hn (m + 1) k xs ys b (by simpa using e1) (by simpa using e2) k1 (by rw [← k2]; exact e4)
    cases d <;> first
      | (cases e; done)
      | exact nx _ (old _) (c.setVal rv) e
      | skip
    rename_i xs0
    obtain ⟨p, ws, rfl, h1, h2, h3, h4, h5, h6⟩ := rv
    refine nx (.own xs0) (fun m k xs ys b e1 e2 e3 e4 => ?_) (c.putOwn h1 h2 h3 h4 (h0 p h3 h5) h6 fun k ys b e1 e2 z => ?_) e
    · rw [List.getElem?_set] at e3 e4
      by_cases hk : i = k
      · rw [if_pos hk] at e3 e4
        split at e4
        · cases e4
          exact nd.1 xs0 rfl m xs e1 e2
        · cases e4
      · rw [if_neg hk] at e3 e4
        exact hn (m + 1) k xs ys b (by simpa using e1) (by simpa using e2) e3 e4
    · subst z
      exact hn 0 k xs0 ys b rfl rfl e1 e2
/-- one's own list changes -/
theorem SCfg.mut {Z0 H0 : Hp} {r : Env} {Z H : Hp} {σ : L2.St} {i : Nat} {xs ys : List D} {a : Addr} {ws : List V} (c : SCfg g Z0 H0 r Z σ H) (e : r[i]? = some (.own xs)) (ea : σ[i]? = some (some (.ref a))) (hl : ws.length ≤ sizeLine) (h : Reps g Z ws ys) :
    SCfg g Z0 H0 (r.set i (.own ys)) Z σ (upd H a (.lst ws)) := by
  obtain ⟨a', vs, q1, q2, q3, q4, q5, q6⟩ := get_own c.cfg e
  rw [ea] at q1; cases q1
  have hZ : Sub Z (upd H a (.lst ws)) := fun b o eb => by rw [upd_ne (ne_of_none eb q5)]; exact c.cfg.pre.zh b o eb
  have gd : g.good (upd H a (.lst ws)) := good_upd c.cfg.pre q4 (fun f z => by rw [q2] at z; cases z) fun _ z => by cases z
  have h0 : H0 a = none := c.own0 i xs a e ea
  have st : Step g Z0 H0 Z (upd H a (.lst ws)) := ⟨c.stp.z, hZ, fun b o eb f => by rw [upd_ne (ne_of_none eb h0)]; exact c.stp.h b o eb f, c.stp.new, c.stp.zf, gd⟩
  have spl : ∀ (k : Nat) (zs : List D), (r.set i (Sl.own ys))[k]? = some (.own zs) → k = i ∨ (k ≠ i ∧ r[k]? = some (.own zs)) := fun k zs e1 => by
    rw [List.getElem?_set] at e1
    by_cases e : i = k
    · exact .inl e.symm
    · rw [if_neg e] at e1
      exact .inr ⟨fun z => e z.symm, e1⟩
  refine ⟨⟨⟨hZ, c.cfg.pre.zf, gd⟩, by rw [List.length_set]; exact c.cfg.len, fun k s ek => ?_⟩, st, fun k zs b e1 e2 => ?_, fun j k ys' zs b hjk e1 e2 e3 e4 => ?_⟩
  · rw [List.getElem?_set] at ek
    by_cases hk : i = k
    · subst hk
      rw [if_pos rfl] at ek
      split at ek
      · cases ek
        exact ⟨_, ea, a, ws, rfl, upd_same, hl, q4, q5, h⟩
      · cases ek
    · rw [if_neg hk] at ek
      obtain ⟨o, k1, k2⟩ := c.cfg.slot k s ek
      refine ⟨o, k1, ?_⟩
      cases s with
      | un => trivial
      | val d => exact k2
      | own zs =>
        obtain ⟨b, vs', rfl, m1, m2⟩ := k2
        have hba : b ≠ a := fun z => c.dist i k xs zs a hk e ek ea (by rw [← z]; exact k1)
        exact ⟨b, vs', rfl, by rw [upd_ne hba]; exact m1, m2⟩
  · rcases spl k zs e1 with rfl | ⟨_, e1⟩
    · rw [ea] at e2; cases e2
      exact h0
    · exact c.own0 k zs b e1 e2
  · rcases spl j ys' e1 with rfl | ⟨n1, e1⟩
    · rcases spl k zs e2 with rfl | ⟨n2, e2⟩
      · exact hjk rfl
      · exact c.dist j k xs zs b hjk e e2 e3 e4
    · rcases spl k zs e2 with rfl | ⟨n2, e2⟩
      · exact c.dist j k ys' xs b hjk (by assumption) e e3 e4
      · exact c.dist j k ys' zs b hjk e1 e2 e3 e4
/-- one's own list becomes everybody's -/
theorem SCfg.frz {Z0 H0 : Hp} {r : Env} {Z H : Hp} {σ : L2.St} {i : Nat} {xs : List D} (c : SCfg g Z0 H0 r Z σ H) (e : r[i]? = some (.own xs)) : ∃ Z', SCfg g Z0 H0 (r.set i (.val (.lst xs))) Z' σ H ∧ Sub Z Z' := by
  obtain ⟨a, vs, q1, q2, q3, q4, q5, q6⟩ := get_own c.cfg e
  have h0 : H0 a = none := c.own0 i xs a e q1
  have st := c.stp.freeze h0 q2 q5 q4
  have sz : Sub Z (upd Z a (.lst vs)) := sub_new q5
  have spl : ∀ (k : Nat) (zs : List D), (r.set i (Sl.val (.lst xs)))[k]? = some (.own zs) → k ≠ i ∧ r[k]? = some (.own zs) := fun k zs e1 => by
    rw [List.getElem?_set] at e1
    by_cases e : i = k
    · rw [if_pos e] at e1
      split at e1 <;> cases e1
    · rw [if_neg e] at e1
      exact ⟨fun z => e z.symm, e1⟩
  refine ⟨upd Z a (.lst vs), ⟨⟨st.pre, by rw [List.length_set]; exact c.cfg.len, fun k s ek => ?_⟩, st, fun k zs b e1 e2 => c.own0 k zs b (spl k zs e1).2 e2, fun j k ys zs b hjk e1 e2 e3 e4 => c.dist j k ys zs b hjk (spl j ys e1).2 (spl k zs e2).2 e3 e4⟩, sz⟩
  rw [List.getElem?_set] at ek
  by_cases hk : i = k
  · subst hk
    rw [if_pos rfl] at ek
    split at ek
    · cases ek
      exact ⟨_, q1, _, rfl, .lst upd_same q3 (q6.mono sz)⟩
    · cases ek
  · rw [if_neg hk] at ek
    obtain ⟨o, k1, k2⟩ := c.cfg.slot k s ek
    refine ⟨o, k1, ?_⟩
    cases s with
    | un => trivial
    | val d => obtain ⟨v, m1, m2⟩ := k2; exact ⟨v, m1, m2.mono sz⟩
    | own zs =>
      obtain ⟨b, vs', rfl, m1, m2, m3, m4, m5⟩ := k2
      have hba : b ≠ a := fun z => c.dist i k xs zs a hk e ek q1 (by rw [← z]; exact k1)
      exact ⟨b, vs', rfl, m1, m2, m3, by rw [upd_ne hba]; exact m4, m5.mono sz⟩

section
variable {W : Nat → Hp → Prop} {Z0 H0 : Hp} {te : TE} {e : Env → T D} {tt : TT} {b : Env → T Bool} {t1 t2 : TS} {f1 f2 : Env → T Fl}
/-- an expression ahead of what a statement does -/
theorem SimS.ofE {k : D → Env → T Fl} {kk : Ends → L2.St → V → Hp → Prop} (h : SimE g W te e) {t : TS} (ht : ∀ Dn σ H, te σ H (fun x H1 => kk Dn σ x H1) → t Dn σ H)
    (q : ∀ (r : Env) (Z : Hp) (σ : L2.St) (H : Hp) (Dn : Ends), SCfg g Z0 H0 r Z σ H → ∀ d v Z' H', Step g Z H Z' H' → RepR g H Z' H' v d → (k d r).All (PostF g Z0 H0 Z Dn) (PostE g Z0 H0 W) (g.bud H') → kk Dn σ v H') :
    SimS g W Z0 H0 t fun r => e r >>= fun d => k d r := by
  intro r Z σ H Dn c a
  rw [all_bind] at a
  refine ht Dn σ H (h r Z σ H _ c.cfg (All.mono a (fun d h1 v Z' H' s e rr => by subst e; exact q r Z σ H Dn c d v Z' H' s rr h1) fun _ x => x.shift c.stp))
theorem simS_asg {i : Nat} (h : SimE g W te e) : SimS g W Z0 H0 (tAsg te (gName i)) fun r => e r >>= fun d => slOf d >>= fun s => .ret (.nx (r.set i s)) := by
  refine SimS.ofE (kk := fun Dn σ x H1 => Dn.nx (σ.set i (some x)) H1) h (fun _ _ _ h => h) fun r Z σ H Dn c d v Z' H' s rr a => ?_
  have c1 := c.step s
  cases d <;> first
    | exact a.elim
    | exact a Z' _ H' (c1.setVal rr) rfl s.z
    | (obtain ⟨p, vs, rfl, h1, h2, h3, h4, h5, h6⟩ := rr; exact a Z' _ H' (c.setOwn s h1 h2 h3 h4 h5 h6) rfl s.z)
theorem simS_asgF {i : Nat} (h : SimE g W te e) : SimS g W Z0 H0 (tAsg te (gName i)) fun r => e r >>= fun d => fz d >>= fun d => .ret (.nx (r.set i (.val d))) := by
  refine SimS.ofE (kk := fun Dn σ x H1 => Dn.nx (σ.set i (some x)) H1) h (fun _ _ _ h => h) fun r Z σ H Dn c d v Z' H' s rr a => ?_
  rw [all_bind] at a
  obtain ⟨d', Z2, a2, s2, sz, r2⟩ := fz_ok s rr a
  exact a2 Z2 _ H' ((c.step s2).setVal r2) rfl s2.z
theorem simS_asgT {is : List Nat} {gt : TG} (hg : SimG g (.tp is) gt) (h : SimE g W te e) : SimS g W Z0 H0 (tAsg te gt) fun r => e r >>= fun d => match d with
    | .tup ds => ofO (setAll is ds r) >>= fun r2 => .ret (.nx r2)
    | _ => .bad := by
  refine SimS.ofE (kk := fun Dn σ x H1 => gt x σ H1 Dn.nx) h (fun _ _ _ h => h) fun r Z σ H Dn c d v Z' H' s rr a => ?_
  cases d <;> first
    | exact a.elim
    | skip
  rename_i ds
  rw [all_bind] at a
  obtain ⟨r2, e2, a2⟩ := ofO_ok a
  have c1 := c.step s
  have eb : bindTg (.tp is) (.tup ds) r = .ret r2 := by
    show ofO (setAll is ds r) = _
    rw [e2]; rfl
  exact hg v _ r r2 Z' σ H' _ c1.cfg rr eb fun σ2 c2 _ os => a2 Z' σ2 H' (c1.sub c2 os) rfl s.z
theorem simS_expr (h : SimE g W te e) : SimS g W Z0 H0 (tDrop te) fun r => e r >>= fun _ => .ret (.nx r) :=
  SimS.ofE (kk := fun Dn σ _ H1 => Dn.nx σ H1) h (fun _ _ _ h => h) fun r Z σ H Dn c d v Z' H' s rr a => a Z' σ H' (c.step s) rfl s.z
theorem simS_ret (h : SimE g W te e) : SimS g W Z0 H0 (tRet te) fun r => e r >>= fun d => match d with
    | .bor _ => .bad
    | d => .ret (.rt d) := by
  refine SimS.ofE (kk := fun Dn σ x H1 => Dn.rt x H1) h (fun _ _ _ h => h) fun r Z σ H Dn c d v Z' H' s rr a => ?_
  have key : ∀ d', RepR g H Z' H' v d' → Post g Z0 H0 Dn.rt (g.bud H') d' → Dn.rt v H' := fun d' r' q => q v Z' H' (c.stp.trans s) rfl (r'.back c.stp)
  cases d <;> first
    | exact a.elim
    | exact key _ rr a
/-- return x, x one's own list or a value -/
theorem simS_retV {i : Nat} : SimS g W Z0 H0 (tRet (tVar i)) fun r => match r[i]? with
    | some (.own xs) => .ret (.rt (.new xs))
    | some (.val d) => .ret (.rt d)
    | _ => .bad := by
  intro r Z σ H Dn c a
  cases e : r[i]? with
  | none => simp only [e] at a; exact a.elim
  | some sl =>
    simp only [e] at a
    cases sl with
    | un => exact a.elim
    | val d =>
      obtain ⟨o, h1, v, rfl, h2⟩ := c.cfg.slot i _ e
      exact ⟨v, h1, a v Z H c.stp rfl (.of h2)⟩
    | own xs =>
      obtain ⟨p, vs, q1, q2, q3, q4, q5, q6⟩ := get_own c.cfg e
      exact ⟨_, q1, a _ Z H c.stp rfl ⟨p, vs, rfl, q2, q3, q4, q5, c.own0 i xs p e q1, q6⟩⟩
theorem simS_seq (h1 : SimS g W Z0 H0 t1 f1) (h2 : SimS g W Z0 H0 t2 f2) : SimS g W Z0 H0 (tSeq t1 t2) fun r => f1 r >>= fun fl => match fl with
    | .nx r2 => f2 r2
    | f => .ret f := by
  intro r Z σ H Dn c a
  rw [all_bind] at a
  refine h1 r Z σ H _ c (All.mono a (fun fl q => ?_) fun _ x => x)
  cases fl with
  | nx r2 => exact fun Z' σ' H' c' e sz => by subst e; exact h2 r2 Z' σ' H' Dn c' (All.mono q (fun _ x => x.shift sz) fun _ x => x)
  | rt d => exact q
  | bk r2 => exact q
  | ct r2 => exact q
theorem simS_if (hb : SimB g W tt b) (h1 : SimS g W Z0 H0 t1 f1) (h2 : SimS g W Z0 H0 t2 f2) : SimS g W Z0 H0 (tIfS tt t1 t2) fun r => b r >>= fun k => if k = true then f1 r else f2 r := by
  intro r Z σ H Dn c a
  rw [all_bind] at a
  refine hb r Z σ H _ c.cfg (All.mono a (fun k q Z' H' s e => ?_) fun _ x => x.shift c.stp)
  subst e
  cases k with
  | true =>
    rw [if_pos rfl] at q
    show (if true = true then _ else _)
    rw [if_pos rfl]
    exact h1 r Z' σ H' Dn (c.step s) (All.mono q (fun _ x => x.shift s.z) fun _ x => x)
  | false =>
    rw [if_neg Bool.false_ne_true] at q
    show (if false = true then _ else _)
    rw [if_neg Bool.false_ne_true]
    exact h2 r Z' σ H' Dn (c.step s) (All.mono q (fun _ x => x.shift s.z) fun _ x => x)
theorem simS_for {wi : TI} {ei : Env → T (List D)} {tg : Tg} {gt : TG} (hi : SimI g W wi ei) (hg : SimG g tg gt) (hb : SimS g W Z0 H0 t1 f1) : SimS g W Z0 H0 (tFor wi gt t1) fun r => ei r >>= fun ds => forL (bindTg tg) f1 ds r := by
  intro r Z σ H Dn c a
  rw [all_bind] at a
  refine hi r Z σ H _ c.cfg (All.mono a (fun ds q J Z1 H1 s1 e1 wd _ => ?_) fun _ x => x.shift c.stp)
  subst e1
  obtain ⟨Gd, Y, wk, hGd, hY⟩ := wd
  refine for_it wk (fun i σ2 H2 => ∃ r2 Z2, SCfg g Z0 H0 r2 Z2 σ2 H2 ∧ Sub Z1 Z2 ∧ (forL (bindTg tg) f1 (ds.drop i) r2).All (PostF g Z0 H0 Z2 Dn) (PostE g Z0 H0 W) (g.bud H2)) ?_ ?_ ?_ ?_
  · refine ⟨r, Z1, c.step s1, fun _ _ e => e, ?_⟩
    rw [List.drop_zero]
    exact All.mono q (fun _ x => x.shift s1.z) fun _ x => x
  · rintro i σ2 H2 _ ⟨r2, Z2, c2, sz, _⟩
    exact hGd H2 fun a o e => c2.cfg.pre.zh a o (sz a o e)
  · rintro i x σ2 H2 H3 hlt ⟨r2, Z2, c2, sz, a2⟩ y
    obtain ⟨Z3, d, ed, s3, eb3, rd⟩ := hY i Z2 H2 x H3 hlt sz c2.cfg.pre y
    rw [← eb3] at a2
    have hdrop : ds.drop i = d :: ds.drop (i + 1) := by
      obtain ⟨hl, e⟩ := List.getElem?_eq_some_iff.mp ed
      rw [List.drop_eq_getElem_cons hl, e]
    rw [hdrop] at a2
    unfold forL at a2
    have c3 := c2.step s3
    cases eb : bindTg tg d r2 with
    | err _ => rw [eb] at a2; cases tg with
      | nm i => cases eb
      | tp is =>
        cases d <;> first
          | (cases eb; done)
          | (rename_i xs; have eb : ofO (setAll is xs r2) = _ := eb; cases q : setAll is xs r2 <;> rw [q] at eb <;> cases eb)
    | bad => rw [eb] at a2; exact a2.elim
    | draw n k => cases tg with
      | nm i => cases eb
      | tp is =>
        cases d <;> first
          | (cases eb; done)
          | (rename_i xs; have eb : ofO (setAll is xs r2) = _ := eb; cases q : setAll is xs r2 <;> rw [q] at eb <;> cases eb)
    | ret r3 =>
      rw [eb, ret_bind, all_bind] at a2
      refine hg x d r2 r3 Z3 σ2 H3 _ c3.cfg rd eb fun σ3 c4 _ os => ?_
      have c5 := c3.sub c4 os
      refine hb r3 Z3 σ3 H3 _ c5 (All.mono a2 (fun fl q => ?_) fun _ x => x)
      have sub3 : Sub Z1 Z3 := fun a o e => s3.z a o (sz a o e)
      cases fl with
      | nx r4 => exact fun Z' σ' H' c' e' sz' => by subst e'; exact ⟨r4, Z', c', fun a o e => sz' a o (sub3 a o e), All.mono q (fun _ x => x.shift fun a o e => sz' a o (s3.z a o e)) fun _ x => x⟩
      | ct r4 => exact fun Z' σ' H' c' e' sz' => by subst e'; exact ⟨r4, Z', c', fun a o e => sz' a o (sub3 a o e), All.mono q (fun _ x => x.shift fun a o e => sz' a o (s3.z a o e)) fun _ x => x⟩
      | bk r4 => exact fun Z' σ' H' c' e' sz' => q Z' σ' H' c' e' fun a o e => sz' a o (s3.z a o e)
      | rt v => exact q
  · rintro σ2 H2 ⟨r2, Z2, c2, sz, a2⟩
    rw [List.drop_length] at a2
    exact a2 Z2 σ2 H2 c2 rfl fun _ _ e => e
theorem simS_while (hb : SimB g W tt b) (h1 : SimS g W Z0 H0 t1 f1) : SimS g W Z0 H0 (tWhile tt t1) fun r => whileL b f1 wh r := by
  intro r Z σ H Dn c a
  refine ⟨fun m σ2 H2 => ∃ r2 Z2, SCfg g Z0 H0 r2 Z2 σ2 H2 ∧ (whileL b f1 m r2).All (PostF g Z0 H0 Z2 Dn) (PostE g Z0 H0 W) (g.bud H2), ⟨wh, r, Z, c, a⟩, ?_⟩
  rintro m σ2 H2 ⟨r2, Z2, c2, a2⟩
  cases m with
  | zero => exact a2.elim
  | succ m =>
    unfold whileL at a2
    rw [all_bind] at a2
    refine hb r2 Z2 σ2 H2 _ c2.cfg (All.mono a2 (fun k q Z' H' s e => ?_) fun _ x => x.shift c2.stp)
    subst e
    have c3 := c2.step s
    cases k with
    | true =>
      rw [if_pos rfl, all_bind] at q
      show (if true = true then _ else _)
      rw [if_pos rfl]
      refine ⟨fun σ' H' => ∃ r2 Z2, SCfg g Z0 H0 r2 Z2 σ' H' ∧ (whileL b f1 m r2).All (PostF g Z0 H0 Z2 Dn) (PostE g Z0 H0 W) (g.bud H'), fun σ' H' w => ⟨m, Nat.lt_succ_self m, w⟩, ?_⟩
      refine h1 r2 Z' σ2 H' _ c3 (All.mono q (fun fl q => ?_) fun _ x => x)
      cases fl with
      | nx r4 => exact fun Z'' σ' H'' c' e' sz' => by subst e'; exact ⟨r4, Z'', c', All.mono q (fun _ x => x.shift fun a o e => sz' a o (s.z a o e)) fun _ x => x⟩
      | ct r4 => exact fun Z'' σ' H'' c' e' sz' => by subst e'; exact ⟨r4, Z'', c', All.mono q (fun _ x => x.shift fun a o e => sz' a o (s.z a o e)) fun _ x => x⟩
      | bk r4 => exact fun Z'' σ' H'' c' e' sz' => q Z'' σ' H'' c' e' fun a o e => sz' a o (s.z a o e)
      | rt v => exact q
    | false =>
      rw [if_neg Bool.false_ne_true] at q
      show (if false = true then _ else _)
      rw [if_neg Bool.false_ne_true]
      exact q Z' σ2 H' c3 rfl s.z
theorem RepRs.length {H Z' H' : Hp} : ∀ {vs : List V} {ds : List D}, RepRs g H Z' H' vs ds → vs.length = ds.length
  | _, _, .nil => rfl
  | _, _, .cons _ t => congrArg Nat.succ (RepRs.length t)
theorem parT_len : ∀ {is : List Nat} {ds : List D} {r r2 : Env}, parT is ds r = some r2 → ds.length = is.length
  | [], [], _, _, _ => rfl
  | [], _ :: _, _, _, e => by cases e
  | _ :: _, [], _, _, e => by cases e
  | i :: is, d :: ds, r, r2, e => by
    unfold parT at e
    split at e
    · exact congrArg Nat.succ (parT_len e)
    · cases e
theorem simS_par {is : List Nat} {ta : TA} {ea : Env → T (List D)} {t : TS} {K : Ends → L2.St → List V → Hp → Prop} (h : SimR g W ta ea) (ht : ∀ (Dn : Ends) σ H, ta σ H (K Dn σ) → t Dn σ H)
    (hK : ∀ (Dn : Ends) (σ : L2.St) (vs : List V) (H1 : Hp), vs.length = is.length → Dn.nx (setσ is vs σ) H1 → K Dn σ vs H1) :
    SimS g W Z0 H0 t fun r => ea r >>= fun ds => ofO (parT is ds r) >>= fun r2 => .ret (.nx r2) := by
  intro r Z σ H Dn c a
  rw [all_bind] at a
  refine ht Dn σ H (h r Z σ H _ c.cfg (All.mono a (fun ds a1 vs Z' H' s e' rr nd => ?_) fun _ x => x.shift c.stp))
  subst e'
  rw [all_bind] at a1
  obtain ⟨r2, e, a2⟩ := ofO_ok a1
  refine hK Dn σ vs H' (rr.length.trans (parT_len e)) ?_
  refine a2 Z' _ H' (SCfg.setMany (fun a nf hn => c.new0 nf hn) is vs ds r r2 σ (c.step s) rr nd (fun m k xs ys b e1 e2 e3 e4 => ?_) e) rfl s.z
  obtain ⟨v, q1, q2⟩ := rr.get e1
  rw [e2] at q1; cases q1
  obtain ⟨p, ws, ep, _, _, _, _, h5, _⟩ := q2
  cases ep
  exact c.newNe h5 k ys b e3 e4 rfl
/-- x.append(e) -/
theorem simS_app {i : Nat} (h : SimE g W te e) : SimS g W Z0 H0 (tDrop (tBM g.K "list" rAppend (tVar i) (tCons te tNil))) fun r => match r[i]? with
    | some (.own xs) => if xs.length < lim then e r >>= fun d => fz d >>= fun d => .ret (.nx (r.set i (.own (xs ++ [d])))) else .bad
    | _ => .bad := by
  intro r Z σ H Dn c a
  cases er : r[i]? with
  | none => simp only [er] at a; exact a.elim
  | some sl =>
    simp only [er] at a
    cases sl with
    | un => exact a.elim
    | val d => exact a.elim
    | own xs =>
      simp only at a
      split at a
      · rename_i hl
        obtain ⟨p, vs, q1, q2, q3, q4, q5, q6⟩ := get_own c.cfg er
        refine ⟨_, q1, .inl ⟨rfl, vs, .of q2⟩, ?_⟩
        rw [all_bind] at a
        refine h r Z σ H _ c.cfg (All.mono a (fun d a1 v Z' H' s e' rr => ?_) fun _ x => x.shift c.stp)
        subst e'
        rw [all_bind] at a1
        obtain ⟨d', Z2, a2, s2, sz, r2⟩ := fz_ok s rr a1
        have h' : H' p = some (.lst vs) := s.h _ _ q2 q4
        have hz : vs.length < sizeLine := by rw [q6.length, ← limLine]; exact hl
        refine ⟨p, vs, v, rfl, rfl, h', hz, ?_⟩
        exact a2 Z2 σ _ ((c.step s2).mut er q1 (by rw [List.length_append]; exact hz) ((q6.mono s2.z).append (.cons r2 .nil))) (bud_upd s.pre q4) s2.z
      · exact a.elim
/-- x[i] = e -/
theorem simS_sset {i : Nat} {ti : TE} {ei : Env → T D} (h : SimE g W te e) (hi : SimE g W ti ei) : SimS g W Z0 H0 (tAsg te (gSub (tVar i) ti rSetL)) fun r => match r[i]? with
    | some (.own xs) => e r >>= fun d => fz d >>= fun d => ei r >>= fun k => match k with
      | .int k => match L2.ixN xs.length k with
        | some j => .ret (.nx (r.set i (.own (xs.set j d))))
        | none => .bad
      | _ => .bad
    | _ => .bad := by
  intro r Z σ H Dn c a
  cases er : r[i]? with
  | none => simp only [er] at a; exact a.elim
  | some sl =>
    simp only [er] at a
    cases sl with
    | un => exact a.elim
    | val d => exact a.elim
    | own xs =>
      simp only at a
      rw [all_bind] at a
      refine h r Z σ H _ c.cfg (All.mono a (fun d a1 v Z' H' s e' rr => ?_) fun _ x => x.shift c.stp)
      subst e'
      rw [all_bind] at a1
      obtain ⟨d', Z2, a2, s2, sz, r2⟩ := fz_ok s rr a1
      have c2 := c.step s2
      obtain ⟨p, vs, q1, q2, q3, q4, q5, q6⟩ := get_own c2.cfg er
      refine ⟨_, q1, ?_⟩
      rw [all_bind] at a2
      refine hi r Z2 σ H' _ c2.cfg (All.mono a2 (fun k a3 vk Z3 H3 s3 e3 r3 => ?_) fun _ x => x.shift c2.stp)
      subst e3
      cases k <;> first
        | exact a3.elim
        | skip
      rename_i kk
      cases r3
      simp only at a3
      cases ej : L2.ixN xs.length kk with
      | none => simp only [ej] at a3; exact a3.elim
      | some j =>
        simp only [ej] at a3
        have h' : H3 p = some (.lst vs) := s3.h _ _ q2 q4
        refine ⟨p, vs, kk, j, rfl, rfl, h', by rw [q6.length]; exact ej, ?_⟩
        exact a3 Z3 σ _ ((c2.step s3).mut er q1 (by rw [List.length_set]; exact q3) ((q6.mono s3.z).set (r2.mono s3.z) j)) (bud_upd s3.pre q4) fun a o e => s3.z a o (s2.z a o e)
theorem simS_raise {cc : Nat} (h0 : True) : SimS g W Z0 H0 (fun _ σ H => (fun (cls : Value) (d : Option Addr) (_ : L2.St) (H : Hp) => ∃ c, cls = .ref (g.cad c) ∧ d = none ∧ W c H) (.ref (g.cad cc)) none σ H) fun _ => .err cc := by
  intro r Z σ H Dn c a
  exact ⟨cc, rfl, rfl, a Z H c.stp rfl⟩
theorem simS_frz {i : Nat} {t : TS} {f : Env → T Fl} (h : SimS g W Z0 H0 t f) : SimS g W Z0 H0 t fun r => (match r[i]? with
    | some (.own xs) => .ret (.nx (r.set i (.val (.lst xs))))
    | some (.val _) => .ret (.nx r)
    | _ => .bad : T Fl) >>= fun fl => match fl with
    | .nx r2 => f r2
    | f => .ret f := by
  intro r Z σ H Dn c a
  cases er : r[i]? with
  | none => simp only [er] at a; exact a.elim
  | some sl =>
    simp only [er] at a
    cases sl with
    | un => exact a.elim
    | val d => exact h r Z σ H Dn c a
    | own xs =>
      obtain ⟨Z', c', sz⟩ := c.frz er
      exact h _ Z' σ H Dn c' (All.mono a (fun _ x => x.shift sz) fun _ x => x)
end
end
end PV
end
section
set_option maxHeartbeats 8000000
/-! PvS8: each statement by its term. -/
namespace PV
open PySem PySem.Spec PyProof.Rows L2

/-! ### which statement -/
def notComp : Expr → Bool
  | .ListComp .. => false | .SetComp .. => false | .DictComp .. => false | _ => true
/-- the names that are stored the other way round -/
def swNames (sc : Scope) (ts : List Expr) : List Str := ts.filterMap fun
  | .Name id pos => if sc.names.lookup id == some .local && pos.line == (ts.head?.map (·.pos.line)).getD 0 then some id else none
  | _ => none
def notTup (sc : Scope) (ts : List Expr) : Expr → Bool
  | .Tuple vs _ _ => !(ts.length == 2 || ts.length == 3) || ((swNames sc ts).length != ts.length || vs.all (foldedForSure 8))
  | _ => true
theorem not_swapped {sc : Scope} {env : PySem.Env} (h : env.scope = sc) {ts : List Expr} {k : Nat} {p : Pos} {v : Expr} (hb : notTup sc ts v = true) : swappedStores [.Tuple ts k p] v env = pure none := by
  cases v <;> first
    | rfl
    | skip
  rename_i vs k2 p2
  have hb : (!(ts.length == 2 || ts.length == 3) || ((swNames sc ts).length != ts.length || vs.all (foldedForSure 8))) = true := hb
  unfold swappedStores
  simp only []
  split
  · rfl
  · rename_i c1
    split
    · rfl
    · generalize hn : List.filterMap _ ts = nm
      have e : nm = swNames sc ts := by
        subst h
        exact hn.symm
      subst e
      split
      · rfl
      · rename_i c2
        split
        · rfl
        · rename_i c3
          exfalso
          simp only [Bool.or_eq_true, not_or] at hb c1 c2
          rcases hb with q | q | q
          · exact c1.1.1 q
          · exact c2.1 q
          · exact c3 q
/-- x = [..] is stored from within -/
def swB (sc : Scope) (x : Str) (p : Pos) : Expr → Bool
  | .ListComp _ _ scope pos => (sc.names.lookup x == some .local) && p.line == pos.line && !(scope.names.any fun (n, k) => n == x && (k == .local || k == .cell))
  | _ => false
def okV : Expr → Bool
  | .ListComp .. => true | .SetComp .. => false | .DictComp .. => false | _ => true
def par2B (sc : Scope) : List Expr → List Expr → Bool
  | [.Name x px, .Name y py], [a, b] => decide (sc.names.lookup x = some .local) && decide (sc.names.lookup y = some .local) && decide (px.line = py.line) && decide (x ≠ y) && plainE a && plainE b && !(foldedForSure 8 a && foldedForSure 8 b) && !(constantsAlone 8 a && constantsAlone 8 b)
  | [.Name x px, .Name y py, .Name z pz], [a, b, c] => decide (sc.names.lookup x = some .local) && decide (sc.names.lookup y = some .local) && decide (sc.names.lookup z = some .local) && decide (px.line = py.line) && decide (px.line = pz.line) && decide (x ≠ y) && decide (x ≠ z) && decide (y ≠ z) && plainE a && plainE b && plainE c &&
      !(foldedForSure 8 a && foldedForSure 8 b && foldedForSure 8 c) && !(constantsAlone 8 a && constantsAlone 8 b && constantsAlone 8 c)
  | _, _ => false
theorem par2_swapped {sc : Scope} {env : PySem.Env} (h : env.scope = sc) (hk : sc.kind = .function) {x y : Str} {px py p p2 : Pos} {a b : Expr} {k k2 : Nat} (hb : par2B sc [.Name x px, .Name y py] [a, b] = true) :
    swappedStores [.Tuple [.Name x px, .Name y py] k p] (.Tuple [a, b] k2 p2) env = pure (some [x, y]) := by
  simp only [par2B, Bool.and_eq_true, decide_eq_true_eq, Bool.not_eq_true', Bool.and_eq_false_iff] at hb
  obtain ⟨⟨⟨⟨⟨⟨⟨h1, h2⟩, h3⟩, h4⟩, h5⟩, h6⟩, h7⟩, h8⟩ := hb
  have kx : env.kindOf x = some .local := by show env.scope.names.lookup x = _; rw [h]; exact h1
  have ky : env.kindOf y = some .local := by show env.scope.names.lookup y = _; rw [h]; exact h2
  have hbk : env.blockKind = .function := by unfold PySem.Env.blockKind; rw [h, hk]; rfl
  have f1 : (foldedForSure 8 a && foldedForSure 8 b) = false := by rw [Bool.and_eq_false_iff]; exact h7
  have f2 : (constantsAlone 8 a && constantsAlone 8 b) = false := by rw [Bool.and_eq_false_iff]; exact h8
  have ne : (y == x) = false := beq_eq_false_iff_ne.mpr fun e => h4 e.symm
  unfold swappedStores
  simp [kx, ky, hbk, f1, f2, Expr.pos, h3, List.eraseDups, List.eraseDupsBy, List.eraseDupsBy.loop, ne]
  intro q
  exfalso
  rcases q with q | q
  · clear h7 h8 f1 f2
    cases a <;> first
      | exact (Bool.false_ne_true q).elim
      | exact (Bool.false_ne_true h5).elim
  · clear h7 h8 f1 f2
    cases b <;> first
      | exact (Bool.false_ne_true q).elim
      | exact (Bool.false_ne_true h6).elim
theorem par3_swapped {sc : Scope} {env : PySem.Env} (h : env.scope = sc) (hk : sc.kind = .function) {x y z : Str} {px py pz p p2 : Pos} {a b c : Expr} {k k2 : Nat} (hb : par2B sc [.Name x px, .Name y py, .Name z pz] [a, b, c] = true) :
    swappedStores [.Tuple [.Name x px, .Name y py, .Name z pz] k p] (.Tuple [a, b, c] k2 p2) env = pure (some [x, y, z]) := by
  simp only [par2B, Bool.and_eq_true, decide_eq_true_eq, Bool.not_eq_true', Bool.and_eq_false_iff] at hb
  obtain ⟨⟨⟨⟨⟨⟨⟨⟨⟨⟨⟨⟨h1, h2⟩, h2'⟩, h3⟩, h3'⟩, h4⟩, h4'⟩, h4''⟩, h5⟩, h6⟩, h6'⟩, h7⟩, h8⟩ := hb
  have kx : env.kindOf x = some .local := by show env.scope.names.lookup x = _; rw [h]; exact h1
  have ky : env.kindOf y = some .local := by show env.scope.names.lookup y = _; rw [h]; exact h2
  have kz : env.kindOf z = some .local := by show env.scope.names.lookup z = _; rw [h]; exact h2'
  have hbk : env.blockKind = .function := by unfold PySem.Env.blockKind; rw [h, hk]; rfl
  have f1 : (foldedForSure 8 a && (foldedForSure 8 b && foldedForSure 8 c)) = false := by rw [← Bool.and_assoc, Bool.and_eq_false_iff, Bool.and_eq_false_iff]; exact h7
  have f2 : (constantsAlone 8 a && (constantsAlone 8 b && constantsAlone 8 c)) = false := by rw [← Bool.and_assoc, Bool.and_eq_false_iff, Bool.and_eq_false_iff]; exact h8
  have ne : (y == x) = false := beq_eq_false_iff_ne.mpr fun e => h4 e.symm
  have ne2 : (z == x) = false := beq_eq_false_iff_ne.mpr fun e => h4' e.symm
  have ne3 : (z == y) = false := beq_eq_false_iff_ne.mpr fun e => h4'' e.symm
  unfold swappedStores
  simp [kx, ky, kz, hbk, f1, f2, Expr.pos, ← h3, ← h3', List.eraseDups, List.eraseDupsBy, List.eraseDupsBy.loop, ne, ne2, ne3]
  intro q
  exfalso
  rcases q with q | q | q
  · clear h7 h8 f1 f2
    cases a <;> first
      | exact (Bool.false_ne_true q).elim
      | exact (Bool.false_ne_true h5).elim
  · clear h7 h8 f1 f2
    cases b <;> first
      | exact (Bool.false_ne_true q).elim
      | exact (Bool.false_ne_true h6).elim
  · clear h7 h8 f1 f2
    cases c <;> first
      | exact (Bool.false_ne_true q).elim
      | exact (Bool.false_ne_true h6').elim
/-- .. by places -/
def parNB (ck : Ck) : List Nat → List Expr → Bool
  | [], [] => true
  | i :: is, .Name x _ :: es => decide (ck.N[i]? = some x) && parNB ck is es
  | _, _ => false
def isFrz : S → Bool
  | .frz _ => true | _ => false
def consB : List Stmt → (Stmt → Bool) → (List Stmt → Bool) → Bool
  | st :: sts, f, h => f st && h sts
  | [], _, _ => false
section
variable (ck : Ck)
mutual
def chkS : S → Scope → Stmt → Bool
  | .asg i e, sc, .Assign [.Name x p] v _ => nmB ck sc (fun _ => true) i (.Name x p) && okV v && chkE ck e sc v
  | .asgF i e, sc, .Assign [.Name x p] v _ => nmB ck sc (fun _ => true) i (.Name x p) && okV v && chkE ck e sc v
  | .asgT is e, sc, .Assign [.Tuple ts _ _] v _ => nmsB ck sc (fun _ => true) is ts && chkE ck e sc v && notComp v && notTup sc ts v
  | .par is es, sc, .Assign [.Tuple ts _ _] (.Tuple vs _ _) _ => par2B sc ts vs && parNB ck is ts && decide is.Nodup && chkR ck es sc vs
  | .expr e, sc, .Expr v _ => chkE ck e sc v && notComp v
  | .pass, _, .Expr (.Constant (.str _) _ _) _ => true
  | .pass, _, .Pass _ => true
  | .app i e, sc, .Expr (.Call (.Attribute (.Name x _) m apos) [v] [] cpos) _ => visB ck sc i x && decide (m = ("append" : Str)) && chkE ck e sc v && plainE v && (apos.endLine == cpos.line)
  | .sset i ix e, sc, .Assign [.Subscript (.Name x _) s _] v _ => visB ck sc i x && chkE ck ix sc s && plainIxB s && chkE ck e sc v && okV v
  | .iff t a b, sc, .If c x y _ => chkT ck t sc c && chkB a sc x && chkB b sc y
  | .for_ tg it body, sc, .For tge ite st [] _ => tgCell ck sc (fun _ => true) tg tge && notSetB ite && chkI ck it sc tge ite && chkB body sc st
  | .while_ t body, sc, .While c st [] _ => chkT ck t sc c && chkB body sc st
  | .ret e, sc, .Return (some v) _ => chkE ck e sc v
  | .retN, _, .Return none _ => true
  | .raise k, sc, .Raise (some (.Call (.Name x _) [.Constant (.str _) _ _] [] _)) none _ => glB sc x && decide ((k, x) ∈ ck.cls)
  | .brk, _, .Break _ => true
  | .cont, _, .Continue _ => true
  | _, _, _ => false
termination_by structural t => t
def chkB : S → Scope → List Stmt → Bool
  | .nil, _, [] => true
  | .cons s r, sc, sts => if isFrz s = true then chkB r sc sts else consB sts (chkS s sc) (chkB r sc)
  | _, _, _ => false
termination_by structural t => t
end
end

/-! ### contexts of a def's body -/
structure ClsE (g : G) (k : Nat) (x : Str) : Prop where
  mg : g.mg x = some (.ref (g.cad k))
  kp : PySem.W.keepIn g.K (.ref (g.cad k)) = true
  ex : PySem.W.excIn g.K (g.cad k) [.type "ValueError", .type "Exception", .type "BaseException", .type "object"] "ValueError.__new__" = true
  sub : PySem.W.subIn g.K (.ref (g.cad k)) (.type "BaseException") = some true
  ty : PySem.W.typeIn g.K (.ref (g.cad k)) = some (.type "type")
structure CtxD (g : G) (ck : Ck) (sc : Scope) (W : Nat → Hp → Prop) (n : Nat) (C : Cx) : Prop where
  ok : CtxOk g ck sc W n C
  kind : sc.kind = .function
  po : PassesOwn (model C.prog C.w) C.A C.env C.xe
  fn : ∀ x, C.fn x = true
  cls : ∀ k x, (k, x) ∈ ck.cls → ClsE g k x
section
variable {g : G} {ck : Ck} {n : Nat} {call : Nat → List D → T D} {wh : Nat} {C : Cx} {sc : Scope} {W : Nat → Hp → Prop} {Z0 H0 : Hp}
abbrev SS (g : G) (C : Cx) (W : Nat → Hp → Prop) (Z0 H0 : Hp) (st : Stmt) (f : Env → T Fl) : Prop := ∃ t, PS C st t ∧ SimS g W Z0 H0 t f
abbrev SSs (g : G) (C : Cx) (W : Nat → Hp → Prop) (Z0 H0 : Hp) (st : List Stmt) (f : Env → T Fl) : Prop := ∃ t, PSs C st t ∧ SimS g W Z0 H0 t f
theorem swaps_none {e : Expr} {t : Option Expr} {l : Nat} {env : PySem.Env} (h : notComp e = true) : swapsWith e t l env = pure false := by
  cases e <;> first
    | rfl
    | exact (Bool.false_ne_true h).elim
/-- the parts of a comprehension -/
theorem comp_parts (c : CtxOk g ck sc W n C) (F : Facts g ck call n) {e : X} {el : Expr} {gens : List Comprehension} {scope : Scope} {pos : Pos} (h : chkE ck e sc (.ListComp el gens scope pos) = true) :
    ∃ (tge ite : Expr) (ifs : List Expr) (own : List (Str × Nat)) (wi : TI) (gt : TG) (tt : TT) (te : TE), gens = [⟨tge, ite, ifs, 0⟩] ∧ PI C tge ite wi ∧ BlkOk C.N C.env.scope scope own ∧
      (∀ (s : Shared) (H : Hp) (A : Addr) (cl : List (Str × Addr)) (fp : List Addr), PG (C.blk s H scope (compEnvC scope cl A C.env) fp) tge gt) ∧
      (∀ (s : Shared) (H : Hp) (A : Addr) (cl : List (Str × Addr)) (fp : List Addr), PTs (C.blk s H scope (compEnvC scope cl A C.env) fp) ifs tt) ∧
      (∀ (s : Shared) (H : Hp) (A : Addr) (cl : List (Str × Addr)) (fp : List Addr), PE (C.blk s H scope (compEnvC scope cl A C.env) fp) el te) ∧
      (∀ x, foldedSetIterable ite C.env x = pure x) ∧ SimE g W (tLc wi gt tt te (own.map (·.2))) (ev call e) := by
  cases e <;> first
    | exact (Bool.false_ne_true h).elim
    | skip
  rename_i tg it cond elt own
  match gens, h with
  | [⟨tge, ite, ifs, asy⟩], h =>
    by_cases ha : asy = 0
    · subst ha
      have h : (blkC ck.N sc scope own && decide (ck.lam ≠ some (relS scope sc)) && tgCell ck (relS scope sc) (fun x => scope.names.lookup x == some .cell) tg tge && tgIn own tg && notSetB ite && chkI ck it sc tge ite && condB ifs (isYes cond) (chkT ck cond (relS scope sc)) && chkE ck elt (relS scope sc) el) = true := h
      simp only [Bool.and_eq_true] at h
      obtain ⟨⟨⟨⟨⟨⟨⟨h1, h0⟩, h2⟩, h3⟩, h4⟩, h5⟩, h6⟩, h7⟩ := h
      have h0 := of_decide_eq_true h0
      obtain ⟨wi, q1, q2⟩ := (sound F it).I C sc W _ _ c h5
      have hb : BlkOk C.N C.env.scope scope own := by
        rw [c.N, c.sc]
        exact blkOk_by h1
      obtain ⟨gt, hg, sg⟩ := tg_any c F h0 h2
      obtain ⟨te, he, se⟩ := E_any (sound F elt) c h0 h7
      have hc : ∃ tt, (∀ (s : Shared) (H : Hp) (A : Addr) (cl : List (Str × Addr)) (fp : List Addr), PTs (C.blk s H scope (compEnvC scope cl A C.env) fp) ifs tt) ∧ SimB g (fun _ _ => False) tt (evs call cond).B := by
        match ifs, h6 with
        | [], h6 =>
          cases cond <;> first
            | exact (Bool.false_ne_true h6).elim
            | exact ⟨_, fun _ _ _ _ _ => pts_nil, sim_yes⟩
        | [cc], h6 =>
          obtain ⟨tt, k1, k2⟩ := B_any (sound F cond) c h0 h6
          exact ⟨tt, fun s H A cl fp => pts_one (k1 s H A cl fp), k2⟩
        | _ :: _ :: _, h6 => exact (Bool.false_ne_true h6).elim
      obtain ⟨tt, ht, st⟩ := hc
      exact ⟨tge, ite, ifs, own, wi, gt, tt, te, rfl, q1, hb, hg, ht, he, notSet_ok h4, sim_comp q2 sg st se (tgIn_ok h3)⟩
    · exfalso
      match asy, ha, h with
      | .ofNat 0, ha, _ => exact ha rfl
      | .ofNat (_ + 1), _, h => exact Bool.false_ne_true h
      | .negSucc _, _, h => exact Bool.false_ne_true h
  | [], h => exact (Bool.false_ne_true h).elim
  | ⟨_, _, _, asy⟩ :: _ :: _, h =>
    exfalso
    match asy, h with
    | .ofNat 0, h => exact Bool.false_ne_true h
    | .ofNat (_ + 1), h => exact Bool.false_ne_true h
    | .negSucc _, h => exact Bool.false_ne_true h
/-- x = e, the term's reading stored -/
theorem ps_name (c : CtxD g ck sc W n C) (F : Facts g ck call n) {i : Nat} {x : Str} {p pos : Pos} {v : Expr} (hn : nmB ck sc (fun _ => true) i (.Name x p) = true) (hv : okV v = true) {e : X} (he : chkE ck e sc v = true) :
    ∃ t, PS C (.Assign [.Name x p] v pos) (tAsg t (gName i)) ∧ SimE g W t (ev call e) := by
  have hg := pg_nm c.ok F (fun x _ => c.fn x) hn
  have hw : swappedStores [.Name x p] v C.env = pure none := by
    first
      | rfl
      | (cases v <;> rfl)
  by_cases hc : notComp v = true
  · obtain ⟨t, h1, h2⟩ := (sound F e).E C sc W v c.ok he
    exact ⟨t, ps_asg h1 hg (show swapsWith v (some (.Name x p)) pos.line C.env = pure false from swaps_none hc) hw, h2⟩
  · cases v with
    | ListComp el gens scope p2 =>
      have hb : C.env.blockKind = .function := by unfold PySem.Env.blockKind; rw [c.ok.sc, c.kind]; rfl
      have hs : swapsWith (.ListComp el gens scope p2) (some (.Name x p)) pos.line C.env = pure (swB sc x p (.ListComp el gens scope p2)) := by
        have kx : C.env.kindOf x = sc.names.lookup x := by show C.env.scope.names.lookup x = _; rw [c.ok.sc]
        unfold swapsWith
        simp only [hb, kx]
        rfl
      cases q : swB sc x p (.ListComp el gens scope p2) with
      | false =>
        obtain ⟨t, h1, h2⟩ := (sound F e).E C sc W _ c.ok he
        exact ⟨t, ps_asg h1 hg (by rw [q] at hs; exact hs) hw, h2⟩
      | true =>
        rw [q] at hs
        obtain ⟨tge, ite, ifs, own, wi, gt, tt, te, rfl, k1, k2, k3, k4, k5, k6, k7⟩ := comp_parts c.ok F he
        have hN : C.N.Nodup := by rw [c.ok.N]; exact F.nd
        simp only [nmB, Bool.and_eq_true, decide_eq_true_eq] at hn
        have hy : C.N[i]? = some x := by rw [c.ok.N]; exact hn.1
        simp only [swB, Bool.and_eq_true, beq_iff_eq] at q
        have hyl : C.env.scope.names.lookup x = some .local := by rw [c.ok.sc]; exact q.1.1
        exact ⟨_, ps_setLc c.ok.calm hN hy hyl hs k1 k2 k3 k4 k5 k6, k7⟩
    | SetComp _ _ _ _ => exact (Bool.false_ne_true hv).elim
    | DictComp _ _ _ _ _ => exact (Bool.false_ne_true hv).elim
    | _ => exact absurd rfl hc

theorem par_names : ∀ {is : List Nat} {es : List Expr}, parNB ck is es = true → es.length = is.length
  | [], [], _ => rfl
  | [], _ :: _, h => (Bool.false_ne_true h).elim
  | _ :: _, [], h => (Bool.false_ne_true h).elim
  | i :: is, e :: es, h => by
    cases e <;> first
      | exact (Bool.false_ne_true h).elim
      | skip
    simp only [parNB, Bool.and_eq_true] at h
    exact congrArg Nat.succ (par_names h.2)
theorem ss_par (c : CtxD g ck sc W n C) (F : Facts g ck call n) {is : List Nat} {es : X} {ts vs : List Expr} {k k2 : Nat} {p p2 pos : Pos} (h : (par2B sc ts vs && parNB ck is ts && decide is.Nodup && chkR ck es sc vs) = true) :
    SS g C W Z0 H0 (.Assign [.Tuple ts k p] (.Tuple vs k2 p2) pos) (ex call wh (.par is es)) := by
  simp only [Bool.and_eq_true, decide_eq_true_eq] at h
  obtain ⟨⟨⟨h1, h2⟩, h3⟩, h4⟩ := h
  obtain ⟨t, q1, q2⟩ := (sound F es).R C sc W _ c.ok h4
  have hN : C.N.Nodup := by rw [c.ok.N]; exact F.nd
  unfold par2B at h1
  split at h1
  · rename_i x px y py a b
    have hw := par2_swapped c.ok.sc c.kind (k := k) (k2 := k2) (p := p) (p2 := p2) (x := x) (y := y) (px := px) (py := py) (a := a) (b := b) h1
    simp only [Bool.and_eq_true, decide_eq_true_eq] at h1
    match is, h2, h3 with
    | [i, j], h2, h3 =>
      simp only [parNB, Bool.and_eq_true, decide_eq_true_eq] at h2
      simp only [List.nodup_cons, List.mem_singleton] at h3
      have lx : C.env.scope.names.lookup x = some .local := by rw [c.ok.sc]; exact h1.1.1.1.1.1.1.1
      have ly : C.env.scope.names.lookup y = some .local := by rw [c.ok.sc]; exact h1.1.1.1.1.1.1.2
      refine ⟨_, ps_par c.ok.calm hN (by rw [c.ok.N]; exact h2.1) (by rw [c.ok.N]; exact h2.2.1) h3.1 lx ly q1 hw, simS_par q2 (fun _ _ _ h => h) fun Dn σ us H1 hl q => ?_⟩
      match us, hl, q with
      | [u, v], _, q => exact ⟨u, v, rfl, q⟩
    | [], h2, _ => exact (Bool.false_ne_true h2).elim
    | [_], h2, _ => simp [parNB] at h2
    | _ :: _ :: _ :: _, h2, _ => simp [parNB] at h2
  · rename_i x px y py z pz a b cc
    have hw := par3_swapped c.ok.sc c.kind (k := k) (k2 := k2) (p := p) (p2 := p2) (x := x) (y := y) (z := z) (px := px) (py := py) (pz := pz) (a := a) (b := b) (c := cc) h1
    simp only [Bool.and_eq_true, decide_eq_true_eq] at h1
    match is, h2, h3 with
    | [i, j, l], h2, h3 =>
      simp only [parNB, Bool.and_eq_true, decide_eq_true_eq] at h2
      simp only [List.nodup_cons, List.mem_cons, List.mem_singleton, not_or] at h3
      obtain ⟨⟨⟨⟨⟨⟨⟨⟨⟨⟨⟨⟨l1, l2⟩, l3⟩, _⟩, _⟩, _⟩, _⟩, _⟩, _⟩, _⟩, _⟩, _⟩, _⟩ := h1
      have lx : C.env.scope.names.lookup x = some .local := by rw [c.ok.sc]; exact l1
      have ly : C.env.scope.names.lookup y = some .local := by rw [c.ok.sc]; exact l2
      have lz : C.env.scope.names.lookup z = some .local := by rw [c.ok.sc]; exact l3
      refine ⟨_, ps_par3 c.ok.calm hN (by rw [c.ok.N]; exact h2.1) (by rw [c.ok.N]; exact h2.2.1) (by rw [c.ok.N]; exact h2.2.2.1) h3.1.1 (by first | exact h3.1.2.1 | exact h3.1.2) (by first | exact h3.2.1.1 | exact h3.2.1) lx ly lz q1 hw, simS_par q2 (fun _ _ _ h => h) fun Dn σ us H1 hl q => ?_⟩
      match us, hl, q with
      | [u, v, w], _, q => exact ⟨u, v, w, rfl, q⟩
    | [], h2, _ => exact (Bool.false_ne_true h2).elim
    | [_], h2, _ => simp [parNB] at h2
    | [_, _], h2, _ => simp [parNB] at h2
    | _ :: _ :: _ :: _ :: _, h2, _ => simp [parNB] at h2
  · cases h1
/-- x.append(v) -/
theorem ss_app (c : CtxD g ck sc W n C) (F : Facts g ck call n) {i : Nat} {e : X} {x m : Str} {v : Expr} {px apos cpos pos : Pos} (h : (visB ck sc i x && decide (m = ("append" : Str)) && chkE ck e sc v && plainE v && (apos.endLine == cpos.line)) = true) :
    SS g C W Z0 H0 (.Expr (.Call (.Attribute (.Name x px) m apos) [v] [] cpos) pos) (ex call wh (.app i e)) := by
  simp only [Bool.and_eq_true, decide_eq_true_eq] at h
  obtain ⟨⟨⟨⟨h1, h2⟩, h3⟩, h4⟩, h5⟩ := h
  subst h2
  obtain ⟨t, q1, q2⟩ := (sound F e).E C sc W _ c.ok h3
  have hs := plain_star (es := []) (env := C.env) h4
  have hm : MtR C "list.append" rAppend := mt_append
  have e1 : PE C (.Call (.Attribute (.Name x px) "append" apos) [v] [] cpos) (tBM g.K "list" rAppend (tVar i) (tCons t tNil)) := by
    rw [← c.ok.K]
    exact pe_bm PySem.F.plainAttrs_list PySem.F.slot_list_append PySem.F.type_list_append hm (visB_ok c.ok h1) (pa_cons q1 pa_nil hs) rfl (by rw [hs]; rfl) h5 hs rfl
  exact ⟨_, ps_expr e1 rfl, simS_app q2⟩
theorem ss_sset (c : CtxD g ck sc W n C) (F : Facts g ck call n) {i : Nat} {ix e : X} {x : Str} {s v : Expr} {px ps pos : Pos} (h : (visB ck sc i x && chkE ck ix sc s && plainIxB s && chkE ck e sc v && okV v) = true) :
    SS g C W Z0 H0 (.Assign [.Subscript (.Name x px) s ps] v pos) (ex call wh (.sset i ix e)) := by
  simp only [Bool.and_eq_true] at h
  obtain ⟨⟨⟨⟨h1, h2⟩, h3⟩, h4⟩, h5⟩ := h
  obtain ⟨ti, k1, k2⟩ := (sound F ix).E C sc W _ c.ok h2
  obtain ⟨t, q1, q2⟩ := (sound F e).E C sc W _ c.ok h4
  have hs : swapsWith v (some (.Subscript (.Name x px) s ps)) pos.line C.env = pure false := by
    cases v <;> first
      | rfl
      | exact (Bool.false_ne_true h5).elim
  have hw : swappedStores [.Subscript (.Name x px) s ps] v C.env = pure none := by
    first
      | rfl
      | (cases v <;> rfl)
  have hg : PG C (.Subscript (.Name x px) s ps) (gSub (tVar i) ti rSetL) := by
    cases s <;> first
      | exact pg_sub (visB_ok c.ok h1) k1 set_list
      | exact (Bool.false_ne_true h3).elim
  exact ⟨_, ps_asg q1 hg hs hw, simS_sset q2 k2⟩
theorem ss_raise (c : CtxD g ck sc W n C) {k : Nat} {x m : Str} {j : Nat} {px pm pc pos : Pos} (h : (glB sc x && decide ((k, x) ∈ ck.cls)) = true) :
    SS g C W Z0 H0 (.Raise (some (.Call (.Name x px) [.Constant (.str m) j pm] [] pc)) none pos) (ex call wh (.raise k)) := by
  simp only [Bool.and_eq_true, decide_eq_true_eq] at h
  obtain ⟨h1, h2⟩ := h
  have K := c.cls k x h2
  have e1 : PMk C (.Call (.Name x px) [.Constant (.str m) j pm] [] pc) (fun _ H Q => Q (.ref (g.cad k)) none H) :=
    pmk_own PySem.F.excBase_ValueError (by rw [c.ok.K]; exact K.ex) (by rw [c.ok.mg]; exact K.mg) (by rw [c.ok.K]; exact K.kp) (raises_own (by rw [c.ok.K]; exact K.sub) (by rw [c.ok.K]; exact K.ty)) (c.ok.gl h1) (glB_ok h1).2.1
  exact ⟨_, ps_raise c.ok.calm c.ok.tk e1, simS_raise trivial⟩
theorem ss_asgT (c : CtxD g ck sc W n C) (F : Facts g ck call n) {is : List Nat} {e : X} {ts : List Expr} {v : Expr} {k : Nat} {p pos : Pos} (h : (nmsB ck sc (fun _ => true) is ts && chkE ck e sc v && notComp v && notTup sc ts v) = true) :
    SS g C W Z0 H0 (.Assign [.Tuple ts k p] v pos) (ex call wh (.asgT is e)) := by
  simp only [Bool.and_eq_true] at h
  obtain ⟨⟨⟨h1, h2⟩, h3⟩, h4⟩ := h
  obtain ⟨t, q1, q2⟩ := (sound F e).E C sc W _ c.ok h2
  have hg := pg_tg c.ok F (f := fun _ => true) (fun x _ => c.fn x) (tg := .tp is) (e := .Tuple ts k p) h1
  have hw : swappedStores [.Tuple ts k p] v C.env = pure none := not_swapped c.ok.sc h4
  exact ⟨_, ps_asg q1 hg (show swapsWith v (some (.Tuple ts k p)) pos.line C.env = pure false from swaps_none h3) hw, simS_asgT (simG_tg (.tp is)) q2⟩

theorem ss_ret (c : CtxD g ck sc W n C) (F : Facts g ck call n) {e : X} {v : Expr} {pos : Pos} (h : chkE ck e sc v = true) : SS g C W Z0 H0 (.Return (some v) pos) (ex call wh (.ret e)) := by
  obtain ⟨t, q1, q2⟩ := (sound F e).E C sc W _ c.ok h
  cases e <;> first
    | exact ⟨_, ps_ret q1, simS_ret q2⟩
    | skip
  cases v <;> first
    | exact (Bool.false_ne_true h).elim
    | skip
  exact ⟨_, ps_ret (visB_ok c.ok h), simS_retV⟩
theorem simS_nx : SimS g W Z0 H0 tNext fun r => .ret (.nx r) := fun r Z σ H Dn c a => a Z σ H c rfl fun _ _ e => e
structure SndS (g : G) (ck : Ck) (call : Nat → List D → T D) (wh n : Nat) (sc : Scope) (W : Nat → Hp → Prop) (C : Cx) (Z0 H0 : Hp) (s : S) : Prop where
  S : ∀ st, chkS ck s sc st = true → SS g C W Z0 H0 st (ex call wh s)
  B : ∀ sts, chkB ck s sc sts = true → SSs g C W Z0 H0 sts (ex call wh s)
theorem soundS (c : CtxD g ck sc W n C) (F : Facts g ck call n) (s : S) : SndS g ck call wh n sc W C Z0 H0 s := by
  induction s with
  | nil =>
    refine ⟨fun st h => (Bool.false_ne_true h).elim, fun sts h => ?_⟩
    cases sts with
    | nil => exact ⟨_, pss_nil, simS_nx⟩
    | cons _ _ => exact (Bool.false_ne_true h).elim
  | cons s r ihs ihr =>
    refine ⟨fun st h => (Bool.false_ne_true h).elim, fun sts h => ?_⟩
    have h : (if isFrz s = true then chkB ck r sc sts else consB sts (chkS ck s sc) (chkB ck r sc)) = true := h
    by_cases hf : isFrz s = true
    · rw [if_pos hf] at h
      cases s <;> first
        | exact (Bool.false_ne_true hf).elim
        | skip
      obtain ⟨t, q1, q2⟩ := ihr.B sts h
      exact ⟨t, q1, simS_frz q2⟩
    · rw [if_neg hf] at h
      cases sts with
      | nil => exact (Bool.false_ne_true h).elim
      | cons st sts =>
        have h : (chkS ck s sc st && chkB ck r sc sts) = true := h
        rw [Bool.and_eq_true] at h
        obtain ⟨t, q1, q2⟩ := ihs.S st h.1
        obtain ⟨u, k1, k2⟩ := ihr.B sts h.2
        exact ⟨_, pss_cons q1 k1, simS_seq q2 k2⟩
  | asg i e =>
    refine ⟨fun st h => ?_, fun sts h => (Bool.false_ne_true h).elim⟩
    cases st with
    | Assign ts v pos =>
      match ts, h with
      | [.Name x p], h =>
        have h : (nmB ck sc (fun _ => true) i (.Name x p) && okV v && chkE ck e sc v) = true := h
        simp only [Bool.and_eq_true] at h
        obtain ⟨t, q1, q2⟩ := ps_name c F h.1.1 h.1.2 (pos := pos) h.2
        exact ⟨_, q1, simS_asg q2⟩
      | [], h => exact (Bool.false_ne_true h).elim
      | a :: _ :: _, h => exfalso; cases a <;> exact Bool.false_ne_true h
      | [a], h => cases a <;> first
        | exact (Bool.false_ne_true h).elim
        | (rename_i x p
           have h : (nmB ck sc (fun _ => true) i (.Name x p) && okV v && chkE ck e sc v) = true := h
           simp only [Bool.and_eq_true] at h
           obtain ⟨t, q1, q2⟩ := ps_name c F h.1.1 h.1.2 (pos := pos) h.2
           exact ⟨_, q1, simS_asg q2⟩)
    | _ => exact (Bool.false_ne_true h).elim
  | asgF i e =>
    refine ⟨fun st h => ?_, fun sts h => (Bool.false_ne_true h).elim⟩
    cases st with
    | Assign ts v pos =>
      match ts, h with
      | [], h => exact (Bool.false_ne_true h).elim
      | a :: _ :: _, h => exfalso; cases a <;> exact Bool.false_ne_true h
      | [a], h => cases a <;> first
        | exact (Bool.false_ne_true h).elim
        | (rename_i x p
           have h : (nmB ck sc (fun _ => true) i (.Name x p) && okV v && chkE ck e sc v) = true := h
           simp only [Bool.and_eq_true] at h
           obtain ⟨t, q1, q2⟩ := ps_name c F h.1.1 h.1.2 (pos := pos) h.2
           exact ⟨_, q1, simS_asgF q2⟩)
    | _ => exact (Bool.false_ne_true h).elim
  | asgT is e =>
    refine ⟨fun st h => ?_, fun sts h => (Bool.false_ne_true h).elim⟩
    cases st with
    | Assign ts v pos =>
      match ts, h with
      | [], h => exact (Bool.false_ne_true h).elim
      | a :: _ :: _, h => exfalso; cases a <;> exact Bool.false_ne_true h
      | [a], h => cases a <;> first
        | exact (Bool.false_ne_true h).elim
        | exact ss_asgT c F h
    | _ => exact (Bool.false_ne_true h).elim
  | par is es =>
    refine ⟨fun st h => ?_, fun sts h => (Bool.false_ne_true h).elim⟩
    cases st with
    | Assign ts v pos =>
      match ts, h with
      | [], h => exact (Bool.false_ne_true h).elim
      | a :: _ :: _, h => exfalso; cases a <;> cases v <;> exact Bool.false_ne_true h
      | [a], h => cases a <;> first
        | exact (Bool.false_ne_true h).elim
        | (cases v <;> first
            | exact (Bool.false_ne_true h).elim
            | exact ss_par c F h)
    | _ => exact (Bool.false_ne_true h).elim
  | expr e =>
    refine ⟨fun st h => ?_, fun sts h => (Bool.false_ne_true h).elim⟩
    cases st with
    | Expr v pos =>
      have h : (chkE ck e sc v && notComp v) = true := h
      rw [Bool.and_eq_true] at h
      obtain ⟨t, q1, q2⟩ := (sound F e).E C sc W _ c.ok h.1
      exact ⟨_, ps_expr q1 (swaps_none h.2), simS_expr q2⟩
    | _ => exact (Bool.false_ne_true h).elim
  | app i e =>
    refine ⟨fun st h => ?_, fun sts h => (Bool.false_ne_true h).elim⟩
    cases st with
    | Expr v pos => cases v with
      | Call fn args kws cpos => cases fn with
        | Attribute o m apos => cases o with
          | Name x px =>
            match args, kws, h with
            | [v], [], h => exact ss_app c F h
            | [], _, h => exact (Bool.false_ne_true h).elim
            | [_], _ :: _, h => exact (Bool.false_ne_true h).elim
            | _ :: _ :: _, _, h => exact (Bool.false_ne_true h).elim
          | _ => exact (Bool.false_ne_true h).elim
        | _ => exact (Bool.false_ne_true h).elim
      | _ => exact (Bool.false_ne_true h).elim
    | _ => exact (Bool.false_ne_true h).elim
  | sset i ix e =>
    refine ⟨fun st h => ?_, fun sts h => (Bool.false_ne_true h).elim⟩
    cases st with
    | Assign ts v pos =>
      match ts, h with
      | [], h => exact (Bool.false_ne_true h).elim
      | a :: _ :: _, h =>
        exfalso
        cases a <;> first
          | exact Bool.false_ne_true h
          | (rename_i o _ _; cases o <;> exact Bool.false_ne_true h)
      | [.Subscript o s ps], h =>
        cases o <;> first
          | exact (Bool.false_ne_true h).elim
          | exact ss_sset c F h
      | [a], h => cases a <;> first
        | exact (Bool.false_ne_true h).elim
        | (rename_i o _ _; cases o <;> first
            | exact (Bool.false_ne_true h).elim
            | exact ss_sset c F h)
    | _ => exact (Bool.false_ne_true h).elim
  | iff t a b iha ihb =>
    refine ⟨fun st h => ?_, fun sts h => (Bool.false_ne_true h).elim⟩
    cases st with
    | If x y z pos =>
      have h : (chkT ck t sc x && chkB ck a sc y && chkB ck b sc z) = true := h
      simp only [Bool.and_eq_true] at h
      obtain ⟨tt, q1, q2⟩ := (sound F t).T C sc W _ c.ok h.1.1
      obtain ⟨ta, k1, k2⟩ := iha.B _ h.1.2
      obtain ⟨tb, j1, j2⟩ := ihb.B _ h.2
      exact ⟨_, ps_if q1 k1 j1, simS_if q2 k2 j2⟩
    | _ => exact (Bool.false_ne_true h).elim
  | for_ tg it body ih =>
    refine ⟨fun st h => ?_, fun sts h => (Bool.false_ne_true h).elim⟩
    cases st with
    | For tge ite st els pos => cases els with
      | nil =>
        have h : (tgCell ck sc (fun _ => true) tg tge && notSetB ite && chkI ck it sc tge ite && chkB ck body sc st) = true := h
        simp only [Bool.and_eq_true] at h
        obtain ⟨ti, q1, q2⟩ := (sound F it).I C sc W _ _ c.ok h.1.2
        obtain ⟨tb, k1, k2⟩ := ih.B _ h.2
        have hg := pg_tg c.ok F (f := fun _ => true) (fun x _ => c.fn x) h.1.1.1
        exact ⟨_, ps_for c.po c.ok.calm q1 hg k1 (notSet_ok h.1.1.2), simS_for q2 (simG_tg tg) k2⟩
      | cons _ _ => exact (Bool.false_ne_true h).elim
    | _ => exact (Bool.false_ne_true h).elim
  | while_ t body ih =>
    refine ⟨fun st h => ?_, fun sts h => (Bool.false_ne_true h).elim⟩
    cases st with
    | While x st els pos => cases els with
      | nil =>
        have h : (chkT ck t sc x && chkB ck body sc st) = true := h
        simp only [Bool.and_eq_true] at h
        obtain ⟨tt, q1, q2⟩ := (sound F t).T C sc W _ c.ok h.1
        obtain ⟨tb, k1, k2⟩ := ih.B _ h.2
        exact ⟨_, ps_while c.po q1 k1, simS_while q2 k2⟩
      | cons _ _ => exact (Bool.false_ne_true h).elim
    | _ => exact (Bool.false_ne_true h).elim
  | ret e =>
    refine ⟨fun st h => ?_, fun sts h => (Bool.false_ne_true h).elim⟩
    cases st with
    | Return v pos => cases v with
      | some v => exact ss_ret c F h
      | none => exact (Bool.false_ne_true h).elim
    | _ => exact (Bool.false_ne_true h).elim
  | retN =>
    refine ⟨fun st h => ?_, fun sts h => (Bool.false_ne_true h).elim⟩
    cases st with
    | Return v pos => cases v with
      | some v => exact (Bool.false_ne_true h).elim
      | none => exact ⟨_, ps_retN, fun r Z σ H Dn c a => a _ Z H c.stp rfl (.of .non)⟩
    | _ => exact (Bool.false_ne_true h).elim
  | raise k =>
    refine ⟨fun st h => ?_, fun sts h => (Bool.false_ne_true h).elim⟩
    cases st with
    | Raise x y pos => cases y with
      | none => cases x with
        | some x => cases x with
          | Call fn args kws pc => cases fn with
            | Name x px =>
              match args, kws, h with
              | [.Constant (.str m) j pm], [], h => exact ss_raise c h
              | [], _, h => exact (Bool.false_ne_true h).elim
              | a :: _ :: _, _, h =>
                exfalso
                cases a <;> first
                  | exact Bool.false_ne_true h
                  | (rename_i q _ _; cases q <;> exact Bool.false_ne_true h)
              | [a], _ :: _, h =>
                exfalso
                cases a <;> first
                  | exact Bool.false_ne_true h
                  | (rename_i q _ _; cases q <;> exact Bool.false_ne_true h)
              | [a], [], h =>
                cases a <;> first
                  | exact (Bool.false_ne_true h).elim
                  | (rename_i q _ _; cases q <;> first
                      | exact (Bool.false_ne_true h).elim
                      | exact ss_raise c h)
            | _ => exact (Bool.false_ne_true h).elim
          | _ => exact (Bool.false_ne_true h).elim
        | none => exact (Bool.false_ne_true h).elim
      | some _ => cases x with
        | none => exact (Bool.false_ne_true h).elim
        | some x =>
          exfalso
          cases x <;> first
            | exact Bool.false_ne_true h
            | (rename_i fn args kws _
               cases fn <;> first
                 | exact Bool.false_ne_true h
                 | (match args, kws, h with
                    | [], _, h => exact Bool.false_ne_true h
                    | [a], [], h => cases a <;> first
                      | exact Bool.false_ne_true h
                      | (rename_i q _ _; cases q <;> exact Bool.false_ne_true h)
                    | [a], _ :: _, h => cases a <;> first
                      | exact Bool.false_ne_true h
                      | (rename_i q _ _; cases q <;> exact Bool.false_ne_true h)
                    | a :: _ :: _, _, h => cases a <;> first
                      | exact Bool.false_ne_true h
                      | (rename_i q _ _; cases q <;> exact Bool.false_ne_true h)))
    | _ => exact (Bool.false_ne_true h).elim
  | frz i => exact ⟨fun st h => (Bool.false_ne_true h).elim, fun sts h => (Bool.false_ne_true h).elim⟩
  | brk =>
    refine ⟨fun st h => ?_, fun sts h => (Bool.false_ne_true h).elim⟩
    cases st with
    | Break pos => exact ⟨_, ps_break, fun r Z σ H Dn c a => a Z σ H c rfl fun _ _ e => e⟩
    | _ => exact (Bool.false_ne_true h).elim
  | cont =>
    refine ⟨fun st h => ?_, fun sts h => (Bool.false_ne_true h).elim⟩
    cases st with
    | Continue pos => exact ⟨_, ps_continue, fun r Z σ H Dn c a => a Z σ H c rfl fun _ _ e => e⟩
    | _ => exact (Bool.false_ne_true h).elim
  | pass =>
    refine ⟨fun st h => ?_, fun sts h => (Bool.false_ne_true h).elim⟩
    cases st with
    | Pass pos => exact ⟨_, ps_pass, simS_nx⟩
    | Expr v pos => cases v with
      | Constant k j p => cases k with
        | str x => exact ⟨_, ps_doc, simS_nx⟩
        | _ => exact (Bool.false_ne_true h).elim
      | _ => exact (Bool.false_ne_true h).elim
    | _ => exact (Bool.false_ne_true h).elim
end
end PV
end
section
set_option maxHeartbeats 8000000
/-! PvS9: each def by its term. -/
namespace PV
open PySem PySem.Spec PyProof.Rows L2
theorem startE_get {N : List Str} {ds : List D} {i : Nat} {s : Sl} (h : (startE N ds)[i]? = some s) : (∃ d, ds[i]? = some d ∧ s = .val d) ∨ (ds.length ≤ i ∧ s = .un) := by
  unfold startE at h
  by_cases hi : i < ds.length
  · rw [List.getElem?_append_left (by simpa using hi), List.getElem?_map] at h
    cases e : ds[i]? with
    | none => rw [e] at h; cases h
    | some d => rw [e] at h; cases h; exact .inl ⟨d, rfl, rfl⟩
  · rw [List.getElem?_append_right (by simpa using hi), List.getElem?_replicate] at h
    split at h
    · cases h; exact .inr ⟨by omega, rfl⟩
    · cases h
theorem start_cfg {g : G} {N : List Str} {Z H : Hp} {vs : List V} {ds : List D} (p : Pre g Z H) (r : Reps g Z vs ds) (hl : vs.length ≤ N.length) : SCfg g Z H (startE N ds) Z (L2.start N vs) H := by
  have hlen := r.length
  refine ⟨⟨p, ?_, fun i s h => ?_⟩, .refl p, fun i xs a h => ?_, fun i j xs ys a _ h => ?_⟩
  · unfold startE L2.start
    simp only [List.length_append, List.length_map, List.length_replicate]
    omega
  · have hi : i < (startE N ds).length := (List.getElem?_eq_some_iff.mp h).1
    unfold startE at hi
    simp only [List.length_append, List.length_map, List.length_replicate] at hi
    rcases startE_get h with ⟨d, h1, rfl⟩ | ⟨h1, rfl⟩
    · obtain ⟨v, k1, k2⟩ := r.get h1
      refine ⟨some v, ?_, v, rfl, k2⟩
      unfold L2.start
      have hv : i < vs.length := (List.getElem?_eq_some_iff.mp k1).1
      rw [List.getElem?_append_left (by simpa using hv), List.getElem?_map, k1]
      rfl
    · refine ⟨none, ?_, trivial⟩
      unfold L2.start
      rw [List.getElem?_append_right (by simp; omega), List.getElem?_replicate, if_pos (by simp; omega)]
  · rcases startE_get h with ⟨d, _, e⟩ | ⟨_, e⟩ <;> cases e
  · rcases startE_get h with ⟨d, _, e⟩ | ⟨_, e⟩ <;> cases e
/-- a def's rule, its code object told -/
theorem okC {P : Program} {w : World} {K : PySem.W.Frag} {mg : Str → Option Value} {base : Heap} {x qual : Str} {params : Arguments} {body : List Stmt} {scope : Scope} {dvs : List V} {kws : List (Str × V)} {f : Addr} {fd : FuncData} {CX : CXT} {N ps : List Str} {k : Nat} {sp : Sp}
    (F : FunD K x qual params body scope dvs kws f fd) (S : FnScope N ps scope) (len : ∀ vs H Q E, sp vs H Q E → vs.length = ps.length)
    (hbody : ∀ (A : Around) (outer : List PySem.Env) (s : Shared) (H : Hp) (vs : List V) (Q : VK) (E : XK), Room k (A.deeper (envOfC qual scope s.heap.objs.size f fd.code)) → sp vs H Q E →
      ∃ t, PSs (cxOf CX P w K mg base N qual scope f fd.code A outer s H E) body t ∧ t { nx := fun _ H' => Q .non H', rt := Q } (L2.start N vs) H) : FnOk P w K mg base CX (k + 1) f fd ps sp := by
  obtain ⟨oc, od, dV, kV, doc, pm, an, cdv, ct, osl, rfl, lk, hcd, _, _⟩ := F.ex
  exact fn_of lk hcd S len hbody
/-- the tables of a def that makes lambdas -/
def LamD (g : G) (x : Str) (fd : FuncData) : Prop := ∃ c P, LamX.TabB g.base g.mg c P ∧ fd.code = .ref c ∧ (P, x ++ ".<locals>." ++ "<lambda>") ∈ g.T ∧ ∀ p ∈ g.T, p.1 = P → p.2 = x ++ ".<locals>." ++ "<lambda>"
/-- THE THEOREM: a def whose body is what its term says -/
theorem fn_sound {g : G} {ck : Ck} {m n wh k : Nat} {P : Tab} {d : Df} {x : Str} {st : Stmt} {f : Addr} {fd : FuncData} (F : FunD g.K x x (defArgs st) (defBody st) (defScope st) [] [] f fd) (S : FnScope d.N d.ps (defScope st))
    (hN : ck.N = d.N) (fa : Facts g ck (callF P wh m) n) (hlam : ck.lam = some (defScope st) → LamD g x fd) (cls : ∀ k x, (k, x) ∈ ck.cls → ClsE g k x) (hc : chkB ck d.body (defScope st) (defBody st) = true) (hP : P.lookup (k + 1) = some d) :
    FnOk g.P g.w g.K g.mg g.base (L2.CX g.P g.w) (n + 3) f fd d.ps (spD g (callF P wh (m + 1)) (k + 1)) := by
  have hcall : ∀ ds, callF P wh (m + 1) (k + 1) ds = runD (callF P wh m) wh d ds := fun ds => by
    show (match P.lookup (k + 1) with | some d => runD (callF P wh m) wh d ds | none => .bad) = _
    rw [hP]
  have hpl : d.ps.length ≤ d.N.length := by
    have := congrArg List.length S.pre
    rw [List.length_take] at this
    omega
  refine okC F S (fun vs H Q E h => ?_) (fun A outer s H vs Q E hr h => ?_)
  · obtain ⟨Z, ds, p, r, a⟩ := h
    rw [hcall] at a
    unfold runD at a
    split at a
    · rename_i e
      rw [r.length]; exact e
    · exact a.elim
  · obtain ⟨Z, ds, p, r, a⟩ := h
    rw [hcall] at a
    unfold runD at a
    split at a
    · rename_i hl
      have c : CtxD g ck (defScope st) (fun c H' => E (.ref (g.cad c)) none H') n (cxOf (L2.CX g.P g.w) g.P g.w g.K g.mg g.base d.N x (defScope st) f fd.code A outer s H E) := by
        refine ⟨⟨rfl, rfl, rfl, rfl, rfl, hN.symm, fun e => ⟨hr, hlam e, fun a ps z => g.gts H a ps p.good z⟩, rfl, rfl, hr.mono (by omega), ?_⟩, S.kind, passes_of rfl, fun _ => rfl, cls⟩
        exact (takes_of (E := E) rfl rfl rfl rfl).imp fun cls d _ H h => by
          obtain ⟨c, rfl, rfl, h⟩ := h
          exact h
      obtain ⟨t, q1, q2⟩ := (soundS (wh := wh) (Z0 := Z) (H0 := H) c fa d.body).B _ hc
      refine ⟨t, q1, q2 _ Z _ H _ (start_cfg p r (by rw [r.length, hl]; exact hpl)) ?_⟩
      rw [all_bind] at a
      refine All.mono a (fun fl q => ?_) fun _ x => x
      cases fl with
      | nx r' => exact fun Z' σ' H' c' e _ => q _ Z' H' c'.stp e (.of .non)
      | rt v => exact q
      | bk r' => exact q.elim
      | ct r' => exact q.elim
    · exact a.elim
end PV
end
section
set_option maxHeartbeats 4000000
/-! PvD0: the state of the draws. -/
namespace PV
open PySem PySem.Spec PyProof.Rows L2
def stK (l t : Int) (gr ce : Addr) : List (Key × V) := [(.inr "great", .ref gr), (.inr "cells", .ref ce), (.inr "left", .int l), (.inr "turn", .int t)]
theorem kne {x y : Str} (h : (x == y) = false) : ¬ (Sum.inr x : Key) = .inr y := fun e => by
  cases e
  rw [beq_self_eq_true] at h
  cases h
section
variable {l t v : Int} {gr ce : Addr}
theorem val_great : valV (stK l t gr ce) (.inr "great") = some (.ref gr) := valV_pos rfl
theorem val_cells : valV (stK l t gr ce) (.inr "cells") = some (.ref ce) := (valV_neg (kne (by decide +kernel))).trans (valV_pos rfl)
theorem val_left : valV (stK l t gr ce) (.inr "left") = some (.int l) := (valV_neg (kne (by decide +kernel))).trans ((valV_neg (kne (by decide +kernel))).trans (valV_pos rfl))
theorem val_turn : valV (stK l t gr ce) (.inr "turn") = some (.int t) := (valV_neg (kne (by decide +kernel))).trans ((valV_neg (kne (by decide +kernel))).trans ((valV_neg (kne (by decide +kernel))).trans (valV_pos rfl)))
theorem put_left : putK (stK l t gr ce) (.inr "left") (.int v) = stK v t gr ce := by
  have h1 : ¬ (Sum.inr "great" : Key) = .inr "left" := kne (by decide +kernel)
  have h2 : ¬ (Sum.inr "cells" : Key) = .inr "left" := kne (by decide +kernel)
  have h3 : ¬ (Sum.inr "turn" : Key) = .inr "left" := kne (by decide +kernel)
  simp only [putK, stK, List.any_cons, List.map_cons, List.map_nil, h1, h2, h3, decide_false, decide_true, Bool.or_true, Bool.true_or, if_true, if_false]
theorem put_turn : putK (stK l t gr ce) (.inr "turn") (.int v) = stK l v gr ce := by
  have h1 : ¬ (Sum.inr "great" : Key) = .inr "turn" := kne (by decide +kernel)
  have h2 : ¬ (Sum.inr "cells" : Key) = .inr "turn" := kne (by decide +kernel)
  have h3 : ¬ (Sum.inr "left" : Key) = .inr "turn" := kne (by decide +kernel)
  simp only [putK, stK, List.any_cons, List.map_cons, List.map_nil, h1, h2, h3, decide_false, decide_true, Bool.or_true, Bool.true_or, Bool.false_or, if_true, if_false]
end
structure GoodAt (s gr ce : Addr) (l t : Int) (ns cs : List Int) (H : Hp) : Prop where
  st : H s = some (.dK (stK l t gr ce))
  gr : H gr = some (.lst (ns.map V.int))
  ce : H ce = some (.lst (cs.map V.int))
  l0 : 0 ≤ l
  t0 : 0 ≤ t
  n0 : ∀ n ∈ ns, 0 ≤ n
  c0 : ∀ n ∈ cs, 0 ≤ n
  nl : ns.length ≤ 63
  cl : cs.length ≤ 63
/-- so many draws, no more -/
def LIM : Nat := 2 ^ 1000000
def turnOf (s : Addr) (H : Hp) : Int := match H s with
  | some (.dK kvs) => (match valV kvs (.inr "turn") with
    | some (.int t) => t
    | _ => 0)
  | _ => 0
def budD (s : Addr) (H : Hp) : Nat := LIM - (turnOf s H).toNat
def GoodD (s gr ce : Addr) (H : Hp) : Prop := gr ≠ ce ∧ ∃ l t ns cs, GoodAt s gr ce l t ns cs H
section
variable {s gr ce : Addr} {l t v : Int} {ns cs : List Int} {H : Hp}
theorem GoodAt.sg (g : GoodAt s gr ce l t ns cs H) : gr ≠ s := ne_of g.gr g.st (by intro z; cases z)
theorem GoodAt.sc (g : GoodAt s gr ce l t ns cs H) : ce ≠ s := ne_of g.ce g.st (by intro z; cases z)
theorem GoodAt.left (g : GoodAt s gr ce l t ns cs H) (h : 0 ≤ v) : GoodAt s gr ce v t ns cs (upd H s (.dK (stK v t gr ce))) :=
  ⟨upd_same, by rw [upd_ne g.sg]; exact g.gr, by rw [upd_ne g.sc]; exact g.ce, h, g.t0, g.n0, g.c0, g.nl, g.cl⟩
theorem GoodAt.turn (g : GoodAt s gr ce l t ns cs H) (h : 0 ≤ v) : GoodAt s gr ce l v ns cs (upd H s (.dK (stK l v gr ce))) :=
  ⟨upd_same, by rw [upd_ne g.sg]; exact g.gr, by rw [upd_ne g.sc]; exact g.ce, g.l0, h, g.n0, g.c0, g.nl, g.cl⟩
theorem GoodAt.keep {H' : Hp} (g : GoodAt s gr ce l t ns cs H) (h : ∀ a o, H a = some o → H' a = some o) : GoodAt s gr ce l t ns cs H' := ⟨h _ _ g.st, h _ _ g.gr, h _ _ g.ce, g.l0, g.t0, g.n0, g.c0, g.nl, g.cl⟩
theorem dg_turn (g : GoodAt s gr ce l t ns cs H) : DGet H s (.str "turn") (some (.int t)) := by rw [← val_turn]; exact DGet.k (k := Sum.inr "turn") g.st
theorem dg_left (g : GoodAt s gr ce l t ns cs H) : DGet H s (.str "left") (some (.int l)) := by rw [← val_left]; exact DGet.k (k := Sum.inr "left") g.st
theorem dg_great (g : GoodAt s gr ce l t ns cs H) : DGet H s (.str "great") (some (.ref gr)) := by rw [← val_great]; exact DGet.k (k := Sum.inr "great") g.st
theorem dg_cells (g : GoodAt s gr ce l t ns cs H) : DGet H s (.str "cells") (some (.ref ce)) := by rw [← val_cells]; exact DGet.k (k := Sum.inr "cells") g.st
theorem dp_turn (g : GoodAt s gr ce l t ns cs H) : DPut H s (.str "turn") (.int v) (upd H s (.dK (stK l v gr ce))) := by rw [← put_turn (t := t)]; exact DPut.k (k := Sum.inr "turn") g.st (by show 4 < sizeLine; rw [sizeLine_eq]; omega)
theorem dp_left (g : GoodAt s gr ce l t ns cs H) : DPut H s (.str "left") (.int v) (upd H s (.dK (stK v t gr ce))) := by rw [← put_left (l := l)]; exact DPut.k (k := Sum.inr "left") g.st (by show 4 < sizeLine; rw [sizeLine_eq]; omega)
end
theorem GoodAt.turnOf {s gr ce : Addr} {l t : Int} {ns cs : List Int} {H : Hp} (g : GoodAt s gr ce l t ns cs H) : turnOf s H = t := by
  unfold PV.turnOf
  rw [g.st]
  show (match valV (stK l t gr ce) (.inr "turn") with | some (.int t) => t | _ => 0) = t
  rw [val_turn]
theorem GoodAt.bud {s gr ce : Addr} {l t : Int} {ns cs : List Int} {H : Hp} (g : GoodAt s gr ce l t ns cs H) : budD s H = LIM - t.toNat := by
  unfold budD
  rw [g.turnOf]
/-- ** of a great number -/
def CPowW (i j : Int) : Prop := 0 ≤ j ∧ (i.natAbs.log2 + 1 : Int) * j ≤ 2 ^ 27
theorem op_powW {X : Cx} : OpR X (binaryOp .Pow) (rI CPowW fun i j => .int (i ^ j.toNat)) := opI fun i j _ _ _ _ _ hc q => by
  have b : Builtin.Int.intBits i ≤ i.natAbs.log2 + 1 := by
    unfold Builtin.Int.intBits
    split <;> omega
  refine pow_int hc.1 (Int.le_trans (Int.mul_le_mul_of_nonneg_right ?_ hc.1) hc.2) q
  omega
theorem log_le {i : Int} {n : Nat} (h : i.natAbs < 2 ^ n) : i.natAbs.log2 ≤ n := by
  by_cases e : i.natAbs = 0
  · rw [e]; exact Nat.zero_le _
  · exact Nat.le_of_lt ((Nat.log2_lt e).mpr h)
theorem blend_bound {t b : Int} {L : Nat} (h0 : 0 ≤ t) (hL : t.toNat < L) (hb : 0 ≤ b) (hb2 : b ≤ 40014 * (t + 1) + 2147483648) : b.natAbs ≤ 40014 * L + 2147483648 := by omega
theorem lim_pow : 40014 * LIM + 2147483648 < 2 ^ 1000020 := by unfold LIM; decide +kernel
theorem blend_log {t b : Int} (h0 : 0 ≤ t) (hL : t.toNat < LIM) (hb : 0 ≤ b) (hb2 : b ≤ 40014 * (t + 1) + 2147483648) : (b.natAbs.log2 + 1 : Int) * 5 ≤ 2 ^ 27 := by
  have h3 := log_le (Nat.lt_of_le_of_lt (blend_bound h0 hL hb hb2) lim_pow)
  have h5 : (2 : Int) ^ 27 = 134217728 := by decide
  rw [h5]
  generalize b.natAbs.log2 = z at h3
  clear hL
  omega
/-- a def that lets nothing out -/
theorem FnOk.any {P : Program} {w : World} {K : PySem.W.Frag} {mg : Str → Option Value} {base : Heap} {CX : CXT} {k : Nat} {f : Addr} {fd : FuncData} {ps : List Str} {sp : Sp} (F : FnOk P w K mg base CX0 k f fd ps sp) : FnOk P w K mg base CX k f fd ps sp := by
  refine ⟨F.len, fun A outer s H args us vs Q E hr he hb hv hs => codeAny_mono (F.run A outer s H args us vs Q E hr he hb hv hs) fun r s' hq => ?_⟩
  cases r with
  | error e => exact hq.elim
  | ok fl => cases fl <;> exact hq
theorem canInts : ∀ ns : List Int, PyData.canLayAll0 (ns.map PyData.int) = true ∧ PyData.depthAll (ns.map PyData.int) = 0
  | [] => ⟨by simp [PyData.canLayAll0], by simp [PyData.depthAll]⟩
  | n :: ns => by
    obtain ⟨h1, h2⟩ := canInts ns
    constructor
    · simp [PyData.canLayAll0, PyData.canLay0, h1]
    · simp [PyData.depthAll, PyData.depth, h2]
theorem shapedInts (ns : List Int) : SeqAt.shaped (.list (ns.map PyData.int)) = true := by
  obtain ⟨h1, h2⟩ := canInts ns
  unfold SeqAt.shaped
  simp [PyData.canLay0, PyData.depth, h1, h2]
theorem dpI {K : PySem.W.Frag} {H : Hp} : ∀ ns : List Int, DpAll K H (ns.map V.int) (ns.map PyData.int)
  | [] => .nil
  | n :: ns => .cons (.int n) (dpI ns)
theorem eqv_nil (ns : List Int) : PyData.eqv (.list (ns.map PyData.int)) (.list []) = decide (ns = []) := by
  cases ns <;> simp [PyData.eqv, PyData.eqvAll]
/-! ### promises -/
/-- no new table -/
def NT (H H' : Hp) : Prop := ∀ a ps, H' a = some (.tbl ps) → H a = some (.tbl ps)
theorem NT.refl {H : Hp} : NT H H := fun _ _ e => e
theorem NT.upd {H H' : Hp} (n : NT H H') {a : Addr} {o : HO} (ho : ∀ ps, o ≠ .tbl ps := by intro _ z; cases z) : NT H (upd H' a o) := fun b ps e => by
  by_cases q : b = a
  · subst q; rw [upd_same] at e; cases e; exact absurd rfl (ho ps)
  · rw [upd_ne q] at e; exact n b ps e
theorem NT.trans {H H1 H2 : Hp} (a : NT H H1) (b : NT H1 H2) : NT H H2 := fun c ps e => a c ps (b c ps e)
def spBl (s gr ce : Addr) : Sp := fun vs H Q _ => vs = [.ref s] ∧ ∃ l t ns cs, GoodAt s gr ce l t ns cs H ∧ t.toNat < LIM ∧ ∀ (m : Int) H', 0 ≤ m → H' s = some (.dK (stK l (t + 1) gr ce)) → (∀ a o, H a = some o → a ≠ s → H' a = some o) → NT H H' → Q (.int m) H'
def spDr (s gr ce : Addr) : Sp := fun vs H Q _ => ∃ k : Int, vs = [.ref s, .int k] ∧ 0 < k ∧ k < 2 ^ 200 ∧ GoodD s gr ce H ∧ 0 < budD s H ∧ ∀ (m : Int) H', 0 ≤ m → m < k → GoodD s gr ce H' → budD s H ≤ budD s H' + 1 → budD s H' ≤ budD s H → (∀ a o, H a = some o → a ≠ s → a ≠ gr → H' a = some o) → NT H H' → Q (.int m) H'
def tDrawRest : TS := tSeq (tAsg (tOp (rI (fun _ j => 0 < j) fun i j => .int (i % j)) (tCB (fun xs H Q => (∃ i, xs = [.int i] ∧ Q (.int i) H) ∨ ∃ k, xs = [.bl k] ∧ Q (.int (if k then 1 else 0)) H) (tCons (tDGet (tVar 0) (tC (.str "left"))) tNil)) (tVar 1)) (gName 2))
  (tSeq (sDPut (tVar 0) (tC (.str "left")) (tOp (rI CDivW fun i j => .int (i / j)) (tDGet (tVar 0) (tC (.str "left"))) (tVar 1))) (tRet (tVar 2)))
theorem draw_rest {s gr ce : Addr} {l t k : Int} {ns cs : List Int} {H : Hp} {a2 : Option V} {D : Ends} (G : GoodAt s gr ce l t ns cs H) (k0 : 0 < k) (k1 : k < 2 ^ 200) (q : ∀ m, 0 ≤ m → m < k → D.rt (.int m) (upd H s (.dK (stK (l / k) t gr ce)))) :
    tDrawRest D [some (.ref s), some (.int k), a2] H := by
  have e1 := Int.emod_nonneg l (Int.ne_of_gt k0)
  have e2 := Int.emod_lt_of_pos l k0
  exact ⟨_, rfl, s, .int l, rfl, dg_left G, .inl ⟨l, rfl, _, rfl, _, _, rfl, rfl, k0, _, rfl, s, .int l, rfl, dg_left G, _, rfl, _, _, rfl, rfl, wide_div (b := 200) k0 (by omega) (by decide) (by decide), _, rfl, s, _, rfl, dp_left G, _, rfl, q _ e1 e2⟩⟩
theorem bud_step {L a b : Nat} (h1 : a ≤ b) (h2 : b ≤ a + 1) : L - a ≤ (L - b) + 1 ∧ L - b ≤ L - a := by omega
theorem bud_pos {L a : Nat} (h : 0 < L - a) : a < L := by omega
theorem ite_t {c : Bool} {A B : Prop} (hc : c = true) (h : A) : if c = true then A else B := by rw [if_pos hc]; exact h
theorem ite_f {c : Bool} {A B : Prop} (hc : c = false) (h : B) : if c = true then A else B := by rw [hc, if_neg Bool.false_ne_true]; exact h
end PV
end
section
set_option maxHeartbeats 4000000
/-! PvD2: the draws as the language has them; the beginning. -/
namespace PV
open PySem PySem.Spec PyProof.Rows L2
theorem turnOf_eq {s : Addr} {H H' : Hp} (e : H' s = H s) : turnOf s H' = turnOf s H := by unfold turnOf; rw [e]
/-- what is fixed once the state stands at s; T: the tables of code objects, Hs: the heap at the law's entry -/
def gD (P : Program) (w : World) (K : PySem.W.Frag) (mg : Str → Option Value) (base : Heap) (cad : Nat → Addr) (T : List (Addr × Str)) (Hs : Hp) (s gr ce : Addr) : G where
  P := P
  w := w
  K := K
  mg := mg
  base := base
  F := fun a => a = s ∨ a = gr ∨ a = ce ∨ ∃ ps, Hs a = some (.tbl ps)
  st := s
  good := fun H => GoodD s gr ce H ∧ LamX.Tabs T H ∧ (∀ a ps, H a = some (.tbl ps) → ∃ qs, Hs a = some (.tbl qs)) ∧ ∀ a ps, Hs a = some (.tbl ps) → ∃ qs, H a = some (.tbl qs)
  cad := cad
  bud := budD s
  gob := fun H H' _ h => by unfold budD; rw [turnOf_eq (h s (.inl rfl))]
  gof := fun H H' ⟨⟨hne, l, t, ns, cs, g⟩, tb, n1, n2⟩ h hx hn => by
    refine ⟨⟨hne, l, t, ns, cs, (h s (.inl rfl)).trans g.st, (h gr (.inr (.inl rfl))).trans g.gr, (h ce (.inr (.inr (.inl rfl)))).trans g.ce, g.l0, g.t0, g.n0, g.c0, g.nl, g.cl⟩, fun p hp => ?_, fun a ps e => n1 a ps (hn a ps e), fun a ps e => ?_⟩
    · obtain ⟨ps, h1, h2, h3⟩ := tb p hp
      exact ⟨ps, (h _ (.inr (.inr (.inr (n1 _ _ h1))))).trans h1, h2, fun pos cv hc => let ⟨c, e1, e2⟩ := h3 pos cv hc; ⟨c, e1, hx _ _ e2⟩⟩
    · obtain ⟨qs, e1⟩ := n2 a ps e
      exact ⟨qs, (h _ (.inr (.inr (.inr ⟨ps, e⟩)))).trans e1⟩
  gff := fun H a ⟨⟨_, l, t, ns, cs, g⟩, _, _, n2⟩ h => by
    rcases h with rfl | rfl | rfl | ⟨ps, e⟩
    · exact ⟨_, g.st⟩
    · exact ⟨_, g.gr⟩
    · exact ⟨_, g.ce⟩
    · obtain ⟨qs, e1⟩ := n2 a ps e
      exact ⟨_, e1⟩
  T := T
  gtb := fun H h => h.2.1
  gtF := fun H a ps h e => .inr (.inr (.inr (h.2.2.1 a ps e)))
  Hs := Hs
  gts := fun H a ps h e => h.2.2.2 a ps e
  gln := fun H H1 _ ⟨⟨hne, l, t, ns, cs, g⟩, tb, n1, n2⟩ e t1 m1 m2 => by
    have es := e _ _ g.st (fun _ z => by cases z)
    refine ⟨⟨⟨hne, l, t, ns, cs, es, e _ _ g.gr (fun _ z => by cases z), e _ _ g.ce (fun _ z => by cases z), g.l0, g.t0, g.n0, g.c0, g.nl, g.cl⟩, t1, fun a ps q => ?_, m2⟩, ?_⟩
    · obtain ⟨qs, q1⟩ := m1 a ps q
      exact n1 a qs q1
    · unfold budD
      rw [turnOf_eq (es.trans g.st.symm)]
section
variable {P : Program} {w : World} {K : PySem.W.Frag} {mg : Str → Option Value} {base : Heap} {cad : Nat → Addr} {T : List (Addr × Str)} {Hs : Hp} {s gr ce : Addr} {f : Addr} {fd : FuncData}
theorem drawP_ok {ds : List D} {P : Nat → D → Prop} {E : Nat → Nat → Prop} {m : Nat} (h : (drawP ds).All P E m) : ∃ k, ds = [.sta, .int k] ∧ 0 < k ∧ k < 2 ^ 200 ∧ 0 < m ∧ ∀ d, 0 ≤ d → d < k → ∀ b', m ≤ b' + 1 → b' ≤ m → P b' (.int d) := by
  unfold drawP at h
  split at h
  · rename_i k
    split at h
    · rename_i c
      have c := of_decide_eq_true c
      exact ⟨k, rfl, c.1, c.2, h.1, h.2⟩
    · exact h.elim
  · exact h.elim
theorem fne_draw {Pt : Tab} {wh n N : Nat} (hn : n ≠ 0) (hN : 2 ≤ N) (F : FnOk P w K mg base CX0 2 f fd ["state", "size_here"] (spDr s gr ce)) (hm : mg "_law_draw" = some (.ref f)) (kp : PySem.W.keepIn K (.ref f) = true) (b : Binds K fd ["state", "size_here"] []) :
    FnE (gD P w K mg base cad T Hs s gr ce) (callF Pt wh (n + 1)) N 0 "_law_draw" 2 := by
  refine ⟨f, fd, _, hm, kp, b, rfl, FnOk.imp (FnOk.any (F.mono (by omega))) fun vs H Q E h => ?_⟩
  obtain ⟨Z, ds, p, r, a⟩ := h
  have e : callF Pt wh (n + 1) 0 ds = drawP ds := if_neg hn
  rw [e] at a
  obtain ⟨k, rfl, k0, k1, hb, h⟩ := drawP_ok a
  cases r with
  | cons r1 r2 =>
    cases r1
    cases r2 with
    | cons r1 r2 =>
      cases r1
      cases r2
      refine ⟨k, rfl, k0, k1, p.good.1, hb, fun m H' m0 m1 g0 b1 b2 fr nt => ?_⟩
      have fr' : ∀ a o, H a = some o → ¬ (gD P w K mg base cad T Hs s gr ce).F a → H' a = some o := fun a o e hf => fr a o e (fun z => hf (.inl z)) fun z => hf (.inr (.inl z))
      obtain ⟨⟨_, l, t, ns, cs, gg⟩, tb, n1, n2⟩ := p.good
      have keep : ∀ a o, H a = some o → (∀ kvs, o ≠ .dK kvs) → (∀ xs, o ≠ .lst xs) → H' a = some o := fun a o e h1 h2 => fr a o e (fun z => by rw [z, gg.st] at e; cases e; exact h1 _ rfl) fun z => by rw [z, gg.gr] at e; cases e; exact h2 _ rfl
      have g' : (gD P w K mg base cad T Hs s gr ce).good H' := by
        refine ⟨g0, fun q hq => ?_, fun a ps e => n1 a ps (nt a ps e), fun a ps e => ?_⟩
        · obtain ⟨ps, h1, h2, h3⟩ := tb q hq
          exact ⟨ps, keep _ _ h1 (fun _ z => by cases z) (fun _ z => by cases z), h2, fun pos cv hc => let ⟨c, e1, e2⟩ := h3 pos cv hc; ⟨c, e1, keep _ _ e2 (fun _ z => by unfold LamX.CodeO at z; cases z) (fun _ z => by unfold LamX.CodeO at z; cases z)⟩⟩
        · obtain ⟨qs, e1⟩ := n2 a ps e
          exact ⟨qs, keep _ _ e1 (fun _ z => by cases z) (fun _ z => by cases z)⟩
      have st : Step (gD P w K mg base cad T Hs s gr ce) Z H Z H' := ⟨fun _ _ e => e, fun a o e => fr' a o (p.zh a o e) fun z => (by rw [p.zf a z] at e; cases e), fr', fun _ _ e => .inl e, p.zf, g'⟩
      exact h m m0 m1 (budD s H') b1 b2 (.int m) Z H' st rfl (.of (.int m))
end

/-- a heap without its tables -/
abbrev noT (H : Hp) : Hp := dropT (fun _ => none) H
theorem noT_none {H : Hp} {a : Addr} {ps : Array Value} (h : H a = some (.tbl ps)) : noT H a = none := by
  rcases none_or (H := noT H) (a := a) with e | ⟨u, e⟩
  · exact e
  · have q := dropT_sub e
    rw [h] at q
    cases q
    obtain ⟨_, z⟩ := dropT_new e
    cases z
theorem noT_sq {K : PySem.W.Frag} {H : Hp} {a : Addr} {xs : List V} (h : SqL K H a xs) : SqL K (noT H) a xs := by
  rcases h with (h | ⟨o, h⟩) | h
  · exact .inl (.inl (dropT_keep h fun _ z => by cases z))
  · exact .inl (.inr ⟨o, dropT_keep h fun _ z => by cases z⟩)
  · exact .inr h
/-! ### the beginning -/
def g0 (P : Program) (w : World) (K : PySem.W.Frag) (mg : Str → Option Value) (base : Heap) (Hs : Hp) : G where
  P := P
  w := w
  K := K
  mg := mg
  base := base
  F := fun a => ∃ ps, Hs a = some (.tbl ps)
  st := 0
  good := fun H => (∀ a ps, Hs a = some (.tbl ps) → H a = some (.tbl ps)) ∧ ∀ a ps, H a = some (.tbl ps) → Hs a = some (.tbl ps)
  cad := fun _ => 0
  bud := fun _ => 0
  gob := fun _ _ _ _ => rfl
  gof := fun H H' ⟨h1, h2⟩ h _ hn => ⟨fun a ps e => (h a ⟨ps, e⟩).trans (h1 a ps e), fun a ps e => h2 a ps (hn a ps e)⟩
  gff := fun H a ⟨h1, _⟩ ⟨ps, e⟩ => ⟨_, h1 a ps e⟩
  T := []
  gtb := fun H _ p hp => by cases hp
  gtF := fun H a ps h e => ⟨ps, h.2 a ps e⟩
  Hs := Hs
  gts := fun H a ps h e => ⟨ps, h.1 a ps e⟩
  gln := fun _ _ h => absurd rfl h
def NG : List Str := ["script", "great", "cell"]
def ckG : Ck := { N := NG, fns := [], cons := [], cls := [] }
def xAbs : X := .blt .abs (.cons (.var 2) .nil)
def xBig : X := .bin .pow (.int 10) (.int 18)
def xGreat : X := .comp (.nm 2) (.var 0) (.cmp .ge xAbs xBig) (.bin .sub xAbs xBig) [("cell", 2)]
def xCells : X := .comp (.nm 2) (.var 0) .yes xAbs [("cell", 2)]
def absI (i : Int) : Int := if i < 0 then -i else i
def greatL (ns : List Int) : List Int := ns.filterMap fun n => if absI n ≥ 10 ^ 18 then some (absI n - 10 ^ 18) else none
def cellsL (ns : List Int) : List Int := ns.map absI
theorem compL_ints {f : D → T (Option D)} {h : Int → Option Int} (e : ∀ n, f (.int n) = .ret ((h n).map D.int)) : ∀ ns : List Int, compL f (ns.map D.int) = .ret ((ns.filterMap h).map D.int)
  | [] => rfl
  | n :: ns => by
    rw [List.map_cons]
    unfold compL
    rw [e n, ret_bind, compL_ints e ns, ret_bind, List.filterMap_cons]
    cases h n <;> rfl
theorem pow18 : binT .pow (.int 10) (.int 18) = .ret (.int (10 ^ 18)) := by
  show powT (.int 10) (.int 18) = _
  unfold powT
  simp
theorem ev_great {call : Nat → List D → T D} {ns : List Int} {a b : Sl} : ev call xGreat [.val (.scr ns), a, b] = .ret (.new ((greatL ns).map D.int)) := by
  have e : ∀ n : Int, compF (.nm 2) [2] (evs call (.cmp .ge xAbs xBig)).B (evs call (.bin .sub xAbs xBig)).E [.val (.scr ns), a, b] (.int n) = .ret (((if absI n ≥ 10 ^ 18 then some (absI n - 10 ^ 18) else none : Option Int)).map D.int) := fun n => by
    have e1 : (evs call xAbs).E [.val (.scr ns), a, .val (.int n)] = .ret (.int (absI n)) := rfl
    have e2 : (evs call xBig).E [.val (.scr ns), a, .val (.int n)] = .ret (.int (10 ^ 18)) := pow18
    have e3 : (evs call (.cmp .ge xAbs xBig)).B [.val (.scr ns), a, .val (.int n)] = .ret (decide ((10 : Int) ^ 18 ≤ absI n)) := by
      show ((evs call xAbs).E _ >>= fun x => (evs call xBig).E _ >>= fun y => cmpT .ge x y >>= fun c => .ret (.bl c)) >>= toB = _
      rw [e1, ret_bind, e2]
      rfl
    have e4 : (evs call (.bin .sub xAbs xBig)).E [.val (.scr ns), a, .val (.int n)] = .ret (.int (absI n - 10 ^ 18)) := by
      show ((evs call xAbs).E _ >>= fun x => (evs call xBig).E _ >>= fun y => binT .sub x y) = _
      rw [e1, ret_bind, e2]
      rfl
    show ((evs call (.cmp .ge xAbs xBig)).B [.val (.scr ns), a, .val (.int n)] >>= fun k => if k = true then (evs call (.bin .sub xAbs xBig)).E [.val (.scr ns), a, .val (.int n)] >>= fun y => fz y >>= fun y => .ret (some y) else .ret none) = _
    rw [e3, ret_bind]
    by_cases c : (10 : Int) ^ 18 ≤ absI n
    · rw [if_pos (decide_eq_true c), e4, if_pos c]
      rfl
    · rw [if_neg (by simpa using c), if_neg c]
      rfl
  show (noErr (compL (compF (.nm 2) [2] (evs call (.cmp .ge xAbs xBig)).B (evs call (.bin .sub xAbs xBig)).E [.val (.scr ns), a, b]) (ns.map D.int)) >>= fun ys => T.ret (D.new ys)) = _
  rw [compL_ints e ns]
  rfl
theorem ev_cells {call : Nat → List D → T D} {ns : List Int} {a b : Sl} : ev call xCells [.val (.scr ns), a, b] = .ret (.new ((cellsL ns).map D.int)) := by
  have e : ∀ n : Int, compF (.nm 2) [2] (evs call .yes).B (evs call xAbs).E [.val (.scr ns), a, b] (.int n) = .ret ((some (absI n)).map D.int) := fun n => rfl
  show (noErr (compL (compF (.nm 2) [2] (evs call .yes).B (evs call xAbs).E [.val (.scr ns), a, b]) (ns.map D.int)) >>= fun ys => T.ret (D.new ys)) = _
  rw [compL_ints e ns]
  have : ns.filterMap (fun n => some (absI n)) = cellsL ns := by unfold cellsL; rw [List.filterMap_eq_map']
  rw [this]
  rfl
theorem intsD_map : ∀ ns : List Int, intsD (ns.map D.int) = some ns
  | [] => rfl
  | n :: ns => by
    show (intsD (ns.map D.int)).map (n :: ·) = _
    rw [intsD_map ns]
    rfl
theorem absI_nn (i : Int) : 0 ≤ absI i := by unfold absI; split <;> omega
theorem great_nn {ns : List Int} : ∀ n ∈ greatL ns, 0 ≤ n := fun n h => by
  obtain ⟨m, _, e⟩ := List.mem_filterMap.mp h
  split at e
  · cases e; omega
  · cases e
theorem cells_nn {ns : List Int} : ∀ n ∈ cellsL ns, 0 ≤ n := fun n h => by
  obtain ⟨m, _, e⟩ := List.mem_map.mp h
  rw [← e]
  exact absI_nn m
theorem great_len (ns : List Int) : (greatL ns).length ≤ ns.length := List.length_filterMap_le ..
theorem cells_len (ns : List Int) : (cellsL ns).length = ns.length := List.length_map ..
theorem merge_st {gr ce : Addr} : mergeK [] (stK 0 0 gr ce) = stK 0 0 gr ce := by
  have h1 : ¬ (Sum.inr "great" : Key) = .inr "cells" := kne (by decide +kernel)
  have h2 : ¬ (Sum.inr "great" : Key) = .inr "left" := kne (by decide +kernel)
  have h3 : ¬ (Sum.inr "great" : Key) = .inr "turn" := kne (by decide +kernel)
  have h4 : ¬ (Sum.inr "cells" : Key) = .inr "left" := kne (by decide +kernel)
  have h5 : ¬ (Sum.inr "cells" : Key) = .inr "turn" := kne (by decide +kernel)
  have h6 : ¬ (Sum.inr "left" : Key) = .inr "turn" := kne (by decide +kernel)
  simp only [mergeK, stK, List.foldl_cons, List.foldl_nil, putK, List.any_nil, List.any_cons, h1, h2, h3, h4, h5, h6, decide_false, Bool.or_false, Bool.false_or, if_neg Bool.false_ne_true, List.nil_append, List.cons_append]
def spBg (K : PySem.W.Frag) : Sp := fun vs H Q _ => ∃ a ns, vs = [.ref a] ∧ SqL K H a (ns.map V.int) ∧ ns.length ≤ 63 ∧
  ∀ s gr ce H', gr ≠ ce → GoodAt s gr ce 0 0 (greatL ns) (cellsL ns) H' → H s = none → H gr = none → H ce = none → (∀ b o, H b = some o → H' b = some o) → NT H H' → Q (.ref s) H'
end PV
end
section
set_option maxHeartbeats 4000000
/-! PvJ: the law's def. -/
namespace PV
open PySem PySem.Spec PyProof.Rows L2
section
variable {P : Program} {w : World} {K : PySem.W.Frag} {mg : Str → Option Value} {base : Heap} {cad : Nat → Addr} {T : List (Addr × Str)}
def canS (P : Program) (w : World) (K : PySem.W.Frag) (mg : Str → Option Value) (base : Heap) (cad : Nat → Addr) (T : List (Addr × Str)) (Hs : Hp) (W : Nat → Hp → Prop) (f : Env → PV.T Fl) : TS := fun Dn σ H =>
  ∃ (s gr ce : Addr) (Z0 H0 : Hp) (r : Env) (Z : Hp), SCfg (gD P w K mg base cad T Hs s gr ce) Z0 H0 r Z σ H ∧ (f r).All (PostF (gD P w K mg base cad T Hs s gr ce) Z0 H0 Z Dn) (PostE (gD P w K mg base cad T Hs s gr ce) Z0 H0 W) ((gD P w K mg base cad T Hs s gr ce).bud H)
theorem rest_can {C : Cx} {Hs : Hp} {W : Nat → Hp → Prop} {sts : List Stmt} {f : Env → PV.T Fl} (h : ∀ s gr ce Z0 H0, SSs (gD P w K mg base cad T Hs s gr ce) C W Z0 H0 sts f) : PSs C sts (canS P w K mg base cad T Hs W f) := by
  refine ⟨fun pins s σ H D I ⟨s', gr, ce, Z0, H0, r, Z, c, a⟩ => ?_⟩
  obtain ⟨t, h1, h2⟩ := h s' gr ce Z0 H0
  exact h1.run pins s σ H D I (h2 r Z σ H D c a)
theorem start_set {N : List Str} {x y : V} (h : 2 ≤ N.length) : (L2.start N [x]).set 1 (some y) = L2.start N [x, y] := by
  match N, h with
  | _ :: _ :: N, _ =>
    unfold L2.start
    have e1 : (N.length + 1 + 1) - 1 = N.length + 1 := rfl
    have e2 : (N.length + 1 + 1) - 2 = N.length := rfl
    simp only [List.length_cons, List.map_cons, List.map_nil, List.length_nil, e1, e2, List.replicate_succ, List.cons_append, List.nil_append, List.set_cons_succ, List.set_cons_zero]
  | [_], h => simp at h
  | [], h => simp at h
theorem sub_toNat0 (L : Nat) : L - (0 : Int).toNat = L := Nat.sub_zero L
def spLaw (K : PySem.W.Frag) (T : List (Addr × Str)) : Sp := fun vs H Q _ => ∃ (a : Addr) (ns : List Int), vs = [.ref a] ∧ SqL K H a (ns.map V.int) ∧ ns.length ≤ 63 ∧ (∀ p ∈ T, H p.1 = some (.tbl #[])) ∧ ∀ H', Q (.bl true) H'
/-- the draws that are left at the start -/
theorem law_ok {ck : Ck} {m n wh : Nat} {Pt : Tab} {x : Str} {st s0 : Stmt} {rest : List Stmt} {body : S} {f : Addr} {fd : FuncData} (F : FunD K x x (defArgs st) (defBody st) (defScope st) [] [] f fd) (S : FnScope ck.N ["script"] (defScope st)) (hN : 2 ≤ ck.N.length)
    (fa : ∀ Hs s gr ce, Facts (gD P w K mg base cad T Hs s gr ce) ck (callF Pt wh m) n) (hb : defBody st = s0 :: rest)
    (h0 : ∀ (cdv : Value) (A : Around) (outer : List PySem.Env) (s : Shared) (H : Hp) (E : XK), Room n (A.deeper (envOfC x (defScope st) s.heap.objs.size f cdv)) → PS (cxOf CX0 P w K mg base ck.N x (defScope st) f cdv A outer s H E).nox s0 (tAsg (tCall (spBg K) [] E0 (tCons (tVar 0) tNil)) (gName 1)))
    (hlam : ck.lam = some (defScope st) → ∀ Hs s gr ce, LamD (gD P w K mg base cad T Hs s gr ce) x fd) (hcls : ck.cls = []) (hc : chkB ck body (defScope st) rest = true)
    (hT : ∀ ns : List Int, ns.length ≤ 63 → (ex (callF Pt wh m) wh body (startE ck.N [.scr ns, .sta])).All (fun _ fl => fl = .rt (.bl true)) (fun _ _ => False) LIM) :
    FnOk P w K mg base CX0 (n + 3) f fd ["script"] (spLaw K T) := by
  refine okC F S (fun vs H Q E h => by obtain ⟨a, ns, rfl, _⟩ := h; rfl) (fun A outer s H vs Q E hr h => ?_)
  obtain ⟨a, ns, rfl, hS, hl, hTb, q⟩ := h
  have hrest : PSs (cxOf CX0 P w K mg base ck.N x (defScope st) f fd.code A outer s H E).nox rest (canS P w K mg base cad T H (fun _ _ => False) (ex (callF Pt wh m) wh body)) := by
    refine rest_can fun s' gr ce Z0 H0 => ?_
    have c : CtxD (gD P w K mg base cad T H s' gr ce) ck (defScope st) (fun _ _ => False) n (cxOf CX0 P w K mg base ck.N x (defScope st) f fd.code A outer s H E).nox :=
      ⟨⟨rfl, rfl, rfl, rfl, rfl, rfl, fun e => ⟨hr, hlam e H s' gr ce, fun a ps z => ⟨ps, z⟩⟩, rfl, rfl, hr.mono (by omega), takes0.imp fun _ _ _ _ ⟨_, _, _, h⟩ => h.elim⟩, S.kind, PassesOwn.never, fun _ => rfl, fun k x h => by rw [hcls] at h; cases h⟩
    exact (soundS (wh := wh) (Z0 := Z0) (H0 := H0) c (fa H s' gr ce) body).B _ hc
  rw [hb]
  refine ⟨_, PSs.nox (pss_cons (h0 fd.code A outer s H E (hr.mono (by omega))) hrest), ?_⟩
  have g0 : (L2.start ck.N [V.ref a])[0]? = some (some (.ref a)) := by unfold L2.start; rfl
  refine ⟨_, g0, a, ns, rfl, hS, hl, fun s' gr ce H' hne G n1 n2 n3 fr nt => ?_⟩
  refine ⟨s', gr, ce, noT H, H', startE ck.N [.scr ns, .sta], noT H, ?_, ?_⟩
  · rw [start_set hN]
    have pre : Pre (gD P w K mg base cad T H s' gr ce) (noT H) H' := by
      refine ⟨fun b o e => fr b o (dropT_sub e), fun b hb => ?_, ⟨hne, _, _, _, _, G⟩, LamX.Tabs.ext (fun p hp => LamX.TabS.nil (hTb p hp)) fr, fun b ps e => ⟨ps, nt b ps e⟩, fun b ps e => ⟨ps, fr b _ e⟩⟩
      rcases hb with rfl | rfl | rfl | ⟨ps, e⟩
      · exact dropT_none n1
      · exact dropT_none n2
      · exact dropT_none n3
      · exact noT_none e
    exact start_cfg pre (.cons (.scr (noT_sq hS) hl) (.cons .sta .nil)) hN
  · have eb : (gD P w K mg base cad T H s' gr ce).bud H' = LIM := by
      show budD s' H' = LIM
      rw [GoodAt.bud G]
      exact sub_toNat0 LIM
    rw [eb]
    refine All.mono (hT ns hl) (fun fl e => ?_) fun _ e => e.elim
    subst e
    intro v Z' H2 _ _ r
    cases r
    exact q H2
end
/-- a def called by keywords alone -/
theorem bindsK {K : PySem.W.Frag} {x qual : Str} {params : Arguments} {body : List Stmt} {scope : Scope} {kws : List (Str × V)} {f : Addr} {fd : FuncData} {ps ks : List Str} {perm : List Nat} (F : FunD K x qual params body scope [] kws f fd)
    (h : ∀ (kV doc pm : Value) (an : Option Addr) (cdv ct : Value) (ws ys : List Value), ws.length = ks.length → permL perm ws = some ys → bindArgs (PySem.W.fnOf x qual params body scope .none kV doc pm an cdv ct) ⟨[], ks.zip ws⟩ = pure (ps.zip ys)) :
    ∀ (s : Shared) (ws ys : List Value), K.In s.heap → ws.length = ks.length → permL perm ws = some ys → BindsTo s fd ⟨[], ks.zip ws⟩ (ps.zip ys) := by
  obtain ⟨oc, od, dV, kV, doc, pm, an, cdv, ct, osl, rfl, lk, hcd, hD, hK⟩ := F.ex
  rcases hD with ⟨_, rfl⟩ | ⟨e, _⟩
  · exact fun s ws ys _ hl hy => .of_eq (h kV doc pm an cdv ct ws ys hl hy)
  · exact absurd rfl e
/-- a def called by some positions, some keywords -/
theorem bindsM {K : PySem.W.Frag} {x qual : Str} {params : Arguments} {body : List Stmt} {scope : Scope} {kws : List (Str × V)} {f : Addr} {fd : FuncData} {ps ks : List Str} {m : Nat} {perm : List Nat} (F : FunD K x qual params body scope [] kws f fd)
    (h : ∀ (kV doc pm : Value) (an : Option Addr) (cdv ct : Value) (us ws ys : List Value), us.length = m → ws.length = ks.length → permL perm (us ++ ws) = some ys → bindArgs (PySem.W.fnOf x qual params body scope .none kV doc pm an cdv ct) ⟨us, ks.zip ws⟩ = pure (ps.zip ys)) :
    ∀ (s : Shared) (us ws ys : List Value), K.In s.heap → us.length = m → ws.length = ks.length → permL perm (us ++ ws) = some ys → BindsTo s fd ⟨us, ks.zip ws⟩ (ps.zip ys) := by
  obtain ⟨oc, od, dV, kV, doc, pm, an, cdv, ct, osl, rfl, lk, hcd, hD, hK⟩ := F.ex
  rcases hD with ⟨_, rfl⟩ | ⟨e, _⟩
  · exact fun s us ws ys _ hu hl hy => .of_eq (h kV doc pm an cdv ct us ws ys hu hl hy)
  · exact absurd rfl e
end PV
end
section
set_option maxHeartbeats 4000000
/-! PvC: how many numbers a run draws at most. -/
namespace PV
open PySem
namespace T
/-- whatever is drawn -/
def All0 {a : Type} (P : a → Prop) (E : Nat → Prop) : T a → Prop
  | .ret x => P x
  | .err c => E c
  | .bad => False
  | .draw n k => ∀ d, 0 ≤ d → d < n → All0 P E (k d)
/-- what holds of the answers there are -/
def Ans {a : Type} (P : a → Prop) : T a → Prop
  | .ret x => P x
  | .err _ => True
  | .bad => True
  | .draw _ k => ∀ d, Ans P (k d)
/-- at most n draws -/
def le {a : Type} : T a → Nat → Prop
  | .draw _ _, 0 => False
  | .draw _ k, n + 1 => ∀ d, le (k d) n
  | _, _ => True
end T
open T
section
variable {a b : Type}
theorem le_mono {t : T a} {n m : Nat} (h : le t n) (hm : n ≤ m) : le t m := by
  induction t generalizing n m with
  | ret x => cases m <;> trivial
  | err c => cases m <;> trivial
  | bad => cases m <;> trivial
  | draw k f ih =>
    cases n with
    | zero => exact h.elim
    | succ n =>
      cases m with
      | zero => omega
      | succ m => exact fun d => ih d (h d) (by omega)
theorem le_bindA {t : T a} {f : a → T b} {P : a → Prop} {n m : Nat} (h : le t n) (hA : t.Ans P) (hf : ∀ x, P x → le (f x) m) : le (t >>= f) (n + m) := by
  show le (T.bind t f) (n + m)
  induction t generalizing n with
  | ret x => exact le_mono (hf x hA) (by omega)
  | err c => show le (T.err c) _; cases n + m <;> trivial
  | bad => show le T.bad _; cases n + m <;> trivial
  | draw k g ih =>
    cases n with
    | zero => exact h.elim
    | succ n =>
      have e : n + 1 + m = (n + m) + 1 := by omega
      rw [e]
      exact fun d => ih d (h d) (hA d)
theorem ans_triv {t : T a} : t.Ans fun _ => True := by
  induction t with
  | ret x => trivial
  | err c => trivial
  | bad => trivial
  | draw k g ih => exact fun d => ih d
theorem ans_mono {t : T a} {P Q : a → Prop} (h : t.Ans P) (hq : ∀ x, P x → Q x) : t.Ans Q := by
  induction t with
  | ret x => exact hq x h
  | err c => trivial
  | bad => trivial
  | draw k g ih => exact fun d => ih d (h d)
theorem ans_bind {t : T a} {f : a → T b} {P : b → Prop} (h : ∀ x, (f x).Ans P) : (t >>= f).Ans P := by
  show (T.bind t f).Ans P
  induction t with
  | ret x => exact h x
  | err c => trivial
  | bad => trivial
  | draw k g ih => exact fun d => ih d
theorem le_bind {t : T a} {f : a → T b} {n m : Nat} (h : le t n) (hf : ∀ x, le (f x) m) : le (t >>= f) (n + m) := le_bindA h ans_triv fun x _ => hf x
theorem le_bind0 {t : T a} {f : a → T b} {n : Nat} (h : le t n) (hf : ∀ x, le (f x) 0) : le (t >>= f) n := le_bind (m := 0) h hf
theorem le_ret {x : a} {n : Nat} : le (T.ret x) n := by cases n <;> trivial
theorem le_err {c : Nat} {n : Nat} : le (T.err c : T a) n := by cases n <;> trivial
theorem le_bad {n : Nat} : le (T.bad : T a) n := by cases n <;> trivial
theorem le_ofO {o : Option a} {n : Nat} : le (ofO o) n := by cases o <;> first | exact le_ret | exact le_bad
theorem le_noErr {t : T a} {n : Nat} (h : le t n) : le (noErr t) n := by
  induction t generalizing n with
  | ret x => exact le_ret
  | err c => exact le_bad
  | bad => exact le_bad
  | draw k f ih =>
    cases n with
    | zero => exact h.elim
    | succ n => exact fun d => ih d (h d)
/-- joined -/
theorem all_of {P : a → Prop} {E : Nat → Prop} {t : T a} {n m : Nat} (h : t.All0 P E) (hl : le t n) (hm : n ≤ m) : t.All (fun _ x => P x) (fun _ c => E c) m := by
  induction t generalizing n m with
  | ret x => exact h
  | err c => exact h
  | bad => exact h
  | draw k f ih =>
    cases n with
    | zero => exact hl.elim
    | succ n => exact ⟨by omega, fun d h0 h1 m' h2 h3 => ih d (h d h0 h1) (hl d) (by omega)⟩
theorem all0_bind {P : b → Prop} {E : Nat → Prop} {f : a → T b} {t : T a} : (t >>= f).All0 P E ↔ t.All0 (fun x => (f x).All0 P E) E := by
  show (T.bind t f).All0 P E ↔ _
  induction t with
  | ret x => exact Iff.rfl
  | err c => exact Iff.rfl
  | bad => exact Iff.rfl
  | draw n k ih => exact ⟨fun h d h0 h1 => (ih d).mp (h d h0 h1), fun h d h0 h1 => (ih d).mpr (h d h0 h1)⟩
theorem All0.mono {P Q : a → Prop} {E F : Nat → Prop} {t : T a} (h : t.All0 P E) (hp : ∀ x, P x → Q x) (he : ∀ c, E c → F c) : t.All0 Q F := by
  induction t with
  | ret x => exact hp x h
  | err c => exact he c h
  | bad => exact h
  | draw n k ih => exact fun d h0 h1 => ih d (h d h0 h1)
end

/-! ### what draws nothing -/
theorem le_deq {x y : D} {n : Nat} : le (deq x y) n := by unfold deq; split <;> first | exact le_ret | exact le_bad
theorem le_bin {op : BOp} {x y : D} {n : Nat} : le (binT op x y) n := by
  cases op
  · show le (addT x y) n
    unfold addT lenIf
    repeat' split
    all_goals first | exact le_ret | exact le_bad
  · show le (subT x y) n
    unfold subT
    split <;> first | exact le_ret | exact le_bad
  · show le (mulT x y) n
    unfold mulT
    repeat' split
    all_goals first | exact le_ret | exact le_bad
  · show le (fdivT x y) n
    unfold fdivT
    repeat' split
    all_goals first | exact le_ret | exact le_bad
  · show le (modT x y) n
    unfold modT
    repeat' split
    all_goals first | exact le_ret | exact le_bad
  · show le (powT x y) n
    unfold powT
    repeat' split
    all_goals first | exact le_ret | exact le_bad
theorem le_isB {x : D} {k : Bool} {n : Nat} : le (isB x k) n := by
  unfold isB
  split <;> first | exact le_ret | exact le_bad
theorem le_isT {x y : D} {n : Nat} : le (isT x y) n := by
  unfold isT isNon
  repeat' split
  all_goals first | exact le_isB | exact le_ret | exact le_bad
theorem le_innT {x y : D} {n : Nat} : le (innT x y) n := by
  unfold innT
  repeat' split
  all_goals first | exact le_ret | exact le_bad
theorem le_cmp {op : COp} {x y : D} {n : Nat} : le (cmpT op x y) n := by
  cases op
  · show le (ltT x y) n
    unfold ltT
    repeat' split
    all_goals first | exact le_ret | exact le_bad
  · show le (leT x y) n
    unfold leT
    split <;> first | exact le_ret | exact le_bad
  · show le (gtT x y) n
    unfold gtT
    split <;> first | exact le_ret | exact le_bad
  · show le (geT x y) n
    unfold geT
    split <;> first | exact le_ret | exact le_bad
  · exact le_deq
  · exact le_bind0 le_deq fun _ => le_ret
  · exact le_isT
  · exact le_bind0 le_isT fun _ => le_ret
  · exact le_innT
  · exact le_bind0 le_innT fun _ => le_ret
theorem le_idx {x y : D} {n : Nat} : le (idxT x y) n := by
  unfold idxT
  split <;> first | exact le_ofO | exact le_bad
theorem le_slc {x : D} {l h : Option Int} {n : Nat} : le (slcT x l h) n := by
  unfold slcT
  split <;> first | exact le_ret | exact le_bad
theorem le_isk {k : D → Option Bool} {ds : List D} {n : Nat} : le (isKind k ds) n := by
  unfold isKind
  repeat' split
  all_goals first | exact le_ret | exact le_bad
theorem le_absB {ds : List D} {n : Nat} : le (absB ds) n := by
  unfold absB
  repeat' split
  all_goals first | exact le_ret | exact le_bad
theorem le_maxB {ds : List D} {n : Nat} : le (maxB ds) n := by
  unfold maxB
  repeat' split
  all_goals first | exact le_ret | exact le_bad
theorem le_minB {ds : List D} {n : Nat} : le (minB ds) n := by
  unfold minB
  repeat' split
  all_goals first | exact le_ret | exact le_bad
theorem le_lenB {ds : List D} {n : Nat} : le (lenB ds) n := by
  unfold lenB
  repeat' split
  all_goals first | exact le_ret | exact le_bad
theorem le_sumB {ds : List D} {n : Nat} : le (sumB ds) n := by
  unfold sumB
  repeat' split
  all_goals first | exact le_ret | exact le_bad
theorem le_allB {ds : List D} {n : Nat} : le (allB ds) n := by
  unfold allB
  repeat' split
  all_goals first | exact le_ret | exact le_bad
theorem le_anyB {ds : List D} {n : Nat} : le (anyB ds) n := by
  unfold anyB
  repeat' split
  all_goals first | exact le_ret | exact le_bad
theorem le_sortedB {ds : List D} {n : Nat} : le (sortedB ds) n := by
  unfold sortedB
  repeat' split
  all_goals first | exact le_ret | exact le_bad
theorem le_listB {ds : List D} {n : Nat} : le (listB ds) n := by
  unfold listB
  repeat' split
  all_goals first | exact le_ret | exact le_bad
theorem le_tupleB {ds : List D} {n : Nat} : le (tupleB ds) n := by
  unfold tupleB
  repeat' split
  all_goals first | exact le_ret | exact le_bad
theorem le_intB {ds : List D} {n : Nat} : le (intB ds) n := by
  unfold intB
  repeat' split
  all_goals first | exact le_ret | exact le_bad
theorem le_gcdB {ds : List D} {n : Nat} : le (gcdB ds) n := by
  unfold gcdB
  split <;> first | exact le_ret | exact le_bad
theorem le_combB {ds : List D} {n : Nat} : le (combB ds) n := by
  unfold combB
  split
  · split <;> first | exact le_ret | exact le_bad
  · exact le_bad
theorem le_strB {ds : List D} {n : Nat} : le (strB ds) n := by
  unfold strB
  split
  · split <;> first | exact le_ret | exact le_bad
  · exact le_bad
theorem le_op1 {o : O1} {d : D} {n : Nat} : le (op1T o d) n := by
  unfold op1T
  split <;> first | exact le_ret | exact le_bad
theorem le_isx {nx k : Nat} {d : D} {n : Nat} : le (isxT nx k d) n := by
  unfold isxT
  split
  · split <;> first | exact le_ret | exact le_bad
  · exact le_ret
  · exact le_bad
theorem le_catch {nx : Nat} {t : T D} {n : Nat} (h : le t n) : le (catchT nx t) n := by
  induction t generalizing n with
  | ret x => exact le_ret
  | err c =>
    show le (if c < nx then T.ret (D.exc c) else .bad) n
    split <;> first | exact le_ret | exact le_bad
  | bad => exact le_bad
  | draw k f ih =>
    cases n with
    | zero => exact h.elim
    | succ n => exact fun d => ih d (h d)
theorem le_blt {f : Blt} {ds : List D} {n : Nat} : le (bltT f ds) n := by
  cases f <;> first
    | exact le_isk
    | exact le_absB
    | exact le_maxB
    | exact le_minB
    | exact le_lenB
    | exact le_sumB
    | exact le_allB
    | exact le_anyB
    | exact le_sortedB
    | exact le_listB
    | exact le_tupleB
    | exact le_intB
    | exact le_gcdB
    | exact le_combB
    | exact le_strB
theorem le_fz {d : D} {n : Nat} : le (fz d) n := by
  unfold fz
  split <;> first | exact le_ret | exact le_bad
theorem le_bindTg {tg : Tg} {d : D} {r : Env} {n : Nat} : le (bindTg tg d r) n := by
  unfold bindTg
  split <;> first | exact le_ret | exact le_ofO | exact le_bad
theorem le_getV {r : Env} {i : Nat} {n : Nat} : le (getV r i) n := by
  unfold getV
  split <;> first | exact le_ret | exact le_bad
theorem le_toB {d : D} {n : Nat} : le (toB d) n := by
  unfold toB
  split <;> first | exact le_ret | exact le_bad
theorem le_rngI {i j : Int} {n : Nat} : le (rngI i j) n := by
  unfold rngI
  split <;> first | exact le_ret | exact le_bad
theorem ans_rngI {i j : Int} : (rngI i j).Ans fun ds => ds.length ≤ lim := by
  unfold rngI
  split
  · rename_i h
    have h := of_decide_eq_true h
    show ((List.range (j - i).toNat).map _).length ≤ lim
    rw [List.length_map, List.length_range]
    exact h.2.2.2.2
  · trivial

/-! ### what an expression costs -/
section
variable (cf : Nat → Nat)
def bX : X → Bool
  | .rng1 _ => true | .rng2 _ _ => true | .cap _ => true | _ => false
def cX : X → Nat
  | .bin _ a b => cX a + cX b
  | .neg a => cX a
  | .cmp _ a b => cX a + cX b
  | .chain _ _ a b c => cX a + (cX b + cX c)
  | .and a b => cX a + cX b
  | .or a b => cX a + cX b
  | .not a => cX a
  | .ite t a b => cX t + (cX a + cX b)
  | .tup as => cX as
  | .lst as => cX as
  | .cons a as => cX a + cX as
  | .idx a i => cX a + cX i
  | .slc a l h => cX a + (cX l + cX h)
  | .part a => cX a
  | .call f as => cX as + cf f
  | .callK f _ as => cX as + cf f
  | .op1 _ a => cX a
  | .callM f _ _ as bs => cX as + (cX bs + cf f)
  | .blt _ as => cX as
  | .isk _ a => cX a
  | .caught _ a => cX a
  | .isx _ _ a => cX a
  | .comp _ it cond elt _ => cX it + lim * (cX cond + cX elt)
  | .cap a => cX a
  | .rng1 a => cX a
  | .rng2 a b => cX a + cX b
  | .zip a b => cX a + cX b
  | .enum a => cX a
  | _ => 0
def okX : X → Bool
  | .bin _ a b => okX a && okX b
  | .neg a => okX a
  | .cmp _ a b => okX a && okX b
  | .chain _ _ a b c => okX a && (okX b && okX c)
  | .and a b => okX a && okX b
  | .or a b => okX a && okX b
  | .not a => okX a
  | .ite t a b => okX t && (okX a && okX b)
  | .tup as => okX as
  | .lst as => okX as
  | .cons a as => okX a && okX as
  | .idx a i => okX a && okX i
  | .slc a l h => okX a && (okX l && okX h)
  | .part a => okX a
  | .call _ as => okX as
  | .callK _ _ as => okX as
  | .op1 _ a => okX a
  | .callM _ _ _ as bs => okX as && okX bs
  | .blt _ as => okX as
  | .isk _ a => okX a
  | .caught _ a => okX a
  | .isx _ _ a => okX a
  | .comp _ it cond elt _ => okX it && (okX cond && okX elt) && (bX it || (cX cf cond + cX cf elt == 0))
  | .cap a => okX a
  | .rng1 a => okX a
  | .rng2 a b => okX a && okX b
  | .zip a b => okX a && okX b
  | .enum a => okX a
  | _ => true
end
section
variable {cf : Nat → Nat} {call : Nat → List D → T D}
structure LeX (s : Sx) (n : Nat) : Prop where
  E : ∀ r, le (s.E r) n
  B : ∀ r, le (s.B r) n
  A : ∀ r, le (s.A r) n
  R : ∀ r, le (s.R r) n
  O : ∀ r, le (s.O r) n
  I : ∀ r, le (s.I r) n
theorem lex_ofE {e : Env → T D} {n : Nat} (h : ∀ r, le (e r) n) : LeX (ofE e) n :=
  ⟨h, fun r => le_bind0 (h r) fun _ => le_toB, fun _ => le_bad, fun _ => le_bad, fun _ => le_bad, fun r => le_bind0 (h r) fun _ => le_ofO⟩
theorem le_compL {f : D → T (Option D)} {n : Nat} (h : ∀ d, le (f d) n) : ∀ ds : List D, le (compL f ds) (ds.length * n)
  | [] => le_ret
  | d :: ds => by
    unfold compL
    rw [List.length_cons, Nat.succ_mul, Nat.add_comm]
    exact le_bind (h d) fun o => le_bind0 (le_compL h ds) fun _ => le_ret
theorem ans_bX {it : X} (h : bX it = true) (r : Env) : ((evs call it).I r).Ans fun ds => ds.length ≤ lim := by
  cases it <;> first
    | exact (Bool.false_ne_true h).elim
    | skip
  · refine ans_bind fun ds => ?_
    split
    · assumption
    · trivial
  · refine ans_bind fun x => ?_
    unfold rng1T
    split
    · exact ans_rngI
    · trivial
  · refine ans_bind fun x => ans_bind fun y => ?_
    unfold rng2T
    split
    · exact ans_rngI
    · trivial
theorem leX (hc : ∀ f ds, le (call f ds) (cf f)) : ∀ x : X, okX cf x = true → LeX (evs call x) (cX cf x) := by
  intro x
  induction x with
  | non => exact fun _ => lex_ofE fun _ => le_ret
  | bl b => exact fun _ => lex_ofE fun _ => le_ret
  | int i => exact fun _ => lex_ofE fun _ => le_ret
  | str x => exact fun _ => lex_ofE fun _ => le_ret
  | var i => exact fun _ => lex_ofE fun _ => le_getV
  | con x i => exact fun _ => lex_ofE fun _ => le_ret
  | bin op a b iha ihb =>
    intro h
    simp only [okX, Bool.and_eq_true] at h
    exact lex_ofE fun r => le_bind ((iha h.1).E r) fun _ => le_bind0 ((ihb h.2).E r) fun _ => le_bin
  | neg a ih =>
    intro h
    exact lex_ofE fun r => le_bind0 ((ih h).E r) fun x => by unfold negT; split <;> first | exact le_ret | exact le_bad
  | cmp op a b iha ihb =>
    intro h
    simp only [okX, Bool.and_eq_true] at h
    exact lex_ofE fun r => le_bind ((iha h.1).E r) fun _ => le_bind0 ((ihb h.2).E r) fun _ => le_bind0 le_cmp fun _ => le_ret
  | chain o p a b c iha ihb ihc =>
    intro h
    simp only [okX, Bool.and_eq_true] at h
    refine lex_ofE fun r => le_bind ((iha h.1).E r) fun x => le_bind ((ihb h.2.1).E r) fun y => ?_
    refine le_mono (n := 0 + cX cf c) (le_bind le_cmp fun k => ?_) (by omega)
    split
    · exact le_bind0 ((ihc h.2.2).E r) fun z => le_bind0 le_cmp fun _ => le_ret
    · exact le_ret
  | and a b iha ihb =>
    intro h
    simp only [okX, Bool.and_eq_true] at h
    refine ⟨fun r => le_bind ((iha h.1).E r) fun x => ?_, fun r => le_bind ((iha h.1).B r) fun k => ?_, fun _ => le_bad, fun _ => le_bad, fun _ => le_bad, fun _ => le_bad⟩
    · unfold andT
      split <;> first | exact (ihb h.2).E r | exact le_ret | exact le_bad
    · split <;> first | exact (ihb h.2).B r | exact le_ret
  | or a b iha ihb =>
    intro h
    simp only [okX, Bool.and_eq_true] at h
    refine ⟨fun r => le_bind ((iha h.1).E r) fun x => ?_, fun r => le_bind ((iha h.1).B r) fun k => ?_, fun _ => le_bad, fun _ => le_bad, fun _ => le_bad, fun _ => le_bad⟩
    · unfold orT
      split <;> first | exact (ihb h.2).E r | exact le_ret | exact le_bad
    · split <;> first | exact (ihb h.2).B r | exact le_ret
  | not a ih =>
    intro h
    refine ⟨fun r => le_bind0 ((ih h).E r) fun x => ?_, fun r => le_bind0 ((ih h).B r) fun _ => le_ret, fun _ => le_bad, fun _ => le_bad, fun _ => le_bad, fun _ => le_bad⟩
    unfold notT
    split <;> first | exact le_ret | exact le_bad
  | ite t a b iht iha ihb =>
    intro h
    simp only [okX, Bool.and_eq_true] at h
    refine lex_ofE fun r => le_bind ((iht h.1).B r) fun k => ?_
    split
    · exact le_mono ((iha h.2.1).E r) (by omega)
    · exact le_mono ((ihb h.2.2).E r) (by omega)
  | tup as ih =>
    intro h
    exact lex_ofE fun r => le_bind0 ((ih h).A r) fun ds => by unfold lenT; split <;> first | exact le_ret | exact le_bad
  | lst as ih =>
    intro h
    exact lex_ofE fun r => le_bind0 ((ih h).A r) fun ds => by unfold lenT; split <;> first | exact le_ret | exact le_bad
  | nil => exact fun _ => ⟨fun _ => le_bad, fun _ => le_bad, fun _ => le_ret, fun _ => le_ret, fun _ => le_bad, fun _ => le_bad⟩
  | cons a as iha ihs =>
    intro h
    simp only [okX, Bool.and_eq_true] at h
    exact ⟨fun _ => le_bad, fun _ => le_bad, fun r => le_bind ((iha h.1).E r) fun x => le_mono (n := 0 + cX cf as) (le_bind le_fz fun _ => le_bind0 ((ihs h.2).A r) fun _ => le_ret) (by omega), fun r => le_bind ((iha h.1).E r) fun x => le_bind0 ((ihs h.2).R r) fun _ => le_ret, fun _ => le_bad, fun _ => le_bad⟩
  | idx a i iha ihi =>
    intro h
    simp only [okX, Bool.and_eq_true] at h
    exact lex_ofE fun r => le_bind ((iha h.1).E r) fun _ => le_bind0 ((ihi h.2).E r) fun _ => le_idx
  | slc a l h iha ihl ihh =>
    intro hh
    simp only [okX, Bool.and_eq_true] at hh
    exact lex_ofE fun r => le_bind ((iha hh.1).E r) fun _ => le_bind ((ihl hh.2.1).O r) fun _ => le_bind0 ((ihh hh.2.2).O r) fun _ => le_slc
  | part a ih =>
    intro h
    exact ⟨fun _ => le_bad, fun _ => le_bad, fun _ => le_bad, fun _ => le_bad, fun r => le_bind0 ((ih h).E r) fun x => by unfold partT; split <;> first | exact le_ret | exact le_bad, fun _ => le_bad⟩
  | nopart => exact fun _ => ⟨fun _ => le_bad, fun _ => le_bad, fun _ => le_bad, fun _ => le_bad, fun _ => le_ret, fun _ => le_bad⟩
  | call f as ih =>
    intro h
    exact lex_ofE fun r => le_bind ((ih h).A r) fun ds => hc f ds
  | callK f perm as ih =>
    intro h
    exact lex_ofE fun r => le_bind ((ih h).A r) fun ds => le_mono (n := 0 + cf f) (le_bind le_ofO fun ds => hc f ds) (by omega)
  | op0 o => exact fun _ => lex_ofE fun _ => by cases o; exact le_ret
  | op1 o a ih =>
    intro h
    exact lex_ofE fun r => le_bind0 ((ih h).E r) fun _ => le_op1
  | callM f m perm as bs iha ihb =>
    intro h
    simp only [okX, Bool.and_eq_true] at h
    exact lex_ofE fun r => le_bind ((iha h.1).A r) fun ds => le_bind ((ihb h.2).A r) fun es => le_mono (n := 0 + cf f) (le_bind le_ofO fun ds => hc f ds) (by omega)
  | blt f as ih =>
    intro h
    exact lex_ofE fun r => le_bind0 ((ih h).R r) fun _ => le_blt
  | isk f a ih =>
    intro h
    exact lex_ofE fun r => le_bind0 ((ih h).E r) fun _ => le_blt
  | caught nx a ih =>
    intro h
    exact lex_ofE fun r => le_catch ((ih h).E r)
  | isx nx k a ih =>
    intro h
    exact lex_ofE fun r => le_bind0 ((ih h).E r) fun _ => le_isx
  | comp tg it cond elt own ihi ihc ihe =>
    intro h
    simp only [okX, Bool.and_eq_true, Bool.or_eq_true, beq_iff_eq] at h
    obtain ⟨⟨h1, h2, h3⟩, h4⟩ := h
    have turn : ∀ r d, le (compF tg (own.map (·.2)) (evs call cond).B (evs call elt).E r d) (cX cf cond + cX cf elt) := fun r d => by
      refine le_mono (n := 0 + (cX cf cond + cX cf elt)) (le_bind le_bindTg fun r2 => le_bind ((ihc h2).B r2) fun k => ?_) (by omega)
      split
      · exact le_bind0 ((ihe h3).E r2) fun y => le_bind0 le_fz fun _ => le_ret
      · exact le_ret
    refine lex_ofE fun r => ?_
    show le (_ >>= _) (cX cf it + lim * (cX cf cond + cX cf elt))
    rcases h4 with h4 | h4
    · refine le_bindA ((ihi h1).I r) (ans_bX h4 r) fun ds hl => ?_
      refine le_bind0 (le_noErr (le_mono (le_compL (turn r) ds) ?_)) fun _ => le_ret
      exact Nat.mul_le_mul_right _ hl
    · refine le_bind ((ihi h1).I r) fun ds => ?_
      refine le_bind0 (le_noErr (le_mono (le_compL (turn r) ds) ?_)) fun _ => le_ret
      rw [h4]
      simp
  | yes => exact fun _ => ⟨fun _ => le_bad, fun _ => le_ret, fun _ => le_bad, fun _ => le_bad, fun _ => le_bad, fun _ => le_bad⟩
  | cap a ih =>
    intro h
    refine ⟨fun _ => le_bad, fun _ => le_bad, fun _ => le_bad, fun _ => le_bad, fun _ => le_bad, fun r => le_bind0 ((ih h).I r) fun ds => ?_⟩
    split <;> first | exact le_ret | exact le_bad
  | rng1 a ih =>
    intro h
    refine ⟨fun _ => le_bad, fun _ => le_bad, fun _ => le_bad, fun _ => le_bad, fun _ => le_bad, fun r => le_bind0 ((ih h).E r) fun x => ?_⟩
    unfold rng1T
    split <;> first | exact le_rngI | exact le_bad
  | rng2 a b iha ihb =>
    intro h
    simp only [okX, Bool.and_eq_true] at h
    refine ⟨fun _ => le_bad, fun _ => le_bad, fun _ => le_bad, fun _ => le_bad, fun _ => le_bad, fun r => le_bind ((iha h.1).E r) fun x => le_bind0 ((ihb h.2).E r) fun y => ?_⟩
    unfold rng2T
    split <;> first | exact le_rngI | exact le_bad
  | zip a b iha ihb =>
    intro h
    simp only [okX, Bool.and_eq_true] at h
    exact ⟨fun _ => le_bad, fun _ => le_bad, fun _ => le_bad, fun _ => le_bad, fun _ => le_bad, fun r => le_bind ((iha h.1).E r) fun x => le_bind0 ((ihb h.2).E r) fun y => le_ofO⟩
  | enum a ih =>
    intro h
    exact ⟨fun _ => le_bad, fun _ => le_bad, fun _ => le_bad, fun _ => le_bad, fun _ => le_bad, fun r => le_bind0 ((ih h).E r) fun x => le_ofO⟩
end

/-! ### statements -/
section
variable (cf : Nat → Nat) (wh : Nat)
def cS : S → Nat
  | .cons s r => cS s + cS r
  | .asg _ e => cX cf e
  | .asgF _ e => cX cf e
  | .asgT _ e => cX cf e
  | .par _ es => cX cf es
  | .expr e => cX cf e
  | .app _ e => cX cf e
  | .sset _ ix e => cX cf e + cX cf ix
  | .iff t a b => cX cf t + (cS a + cS b)
  | .for_ _ it body => cX cf it + lim * cS body
  | .while_ t body => wh * (cX cf t + cS body)
  | .ret e => cX cf e
  | _ => 0
def okS : S → Bool
  | .cons s r => okS s && okS r
  | .asg _ e => okX cf e
  | .asgF _ e => okX cf e
  | .asgT _ e => okX cf e
  | .par _ es => okX cf es
  | .expr e => okX cf e
  | .app _ e => okX cf e
  | .sset _ ix e => okX cf e && okX cf ix
  | .iff t a b => okX cf t && (okS a && okS b)
  | .for_ _ it body => okX cf it && okS body && (bX it || (cS cf wh body == 0))
  | .while_ t body => okX cf t && okS body
  | .ret e => okX cf e
  | _ => true
end
section
variable {cf : Nat → Nat} {wh : Nat} {call : Nat → List D → T D}
theorem le_forL {set : D → Env → T Env} {body : Env → T Fl} {n : Nat} (h0 : ∀ d r, le (set d r) 0) (h : ∀ r, le (body r) n) : ∀ (ds : List D) (r : Env), le (forL set body ds r) (ds.length * n)
  | [], r => le_ret
  | d :: ds, r => by
    unfold forL
    rw [List.length_cons, Nat.succ_mul, Nat.add_comm]
    refine le_mono (n := 0 + (n + ds.length * n)) (le_bind (h0 d r) fun r1 => le_bind (h r1) fun fl => ?_) (by omega)
    cases fl with
    | nx r2 => exact le_forL h0 h ds r2
    | ct r2 => exact le_forL h0 h ds r2
    | bk r2 => exact le_ret
    | rt v => exact le_ret
theorem le_whileL {test : Env → T Bool} {body : Env → T Fl} {n m : Nat} (h0 : ∀ r, le (test r) n) (h : ∀ r, le (body r) m) : ∀ (k : Nat) (r : Env), le (whileL test body k r) (k * (n + m))
  | 0, r => le_bad
  | k + 1, r => by
    unfold whileL
    rw [Nat.succ_mul, Nat.add_comm]
    refine le_mono (n := n + (m + k * (n + m))) (le_bind (h0 r) fun c => ?_) (by omega)
    split
    · refine le_bind (h r) fun fl => ?_
      cases fl with
      | nx r2 => exact le_whileL h0 h k r2
      | ct r2 => exact le_whileL h0 h k r2
      | bk r2 => exact le_ret
      | rt v => exact le_ret
    · exact le_ret
theorem leS (hc : ∀ f ds, le (call f ds) (cf f)) : ∀ s : S, okS cf wh s = true → ∀ r, le (ex call wh s r) (cS cf wh s) := by
  intro s
  induction s with
  | nil => exact fun _ _ => le_ret
  | cons s t ihs iht =>
    intro h r
    simp only [okS, Bool.and_eq_true] at h
    refine le_bind (ihs h.1 r) fun fl => ?_
    cases fl with
    | nx r2 => exact iht h.2 r2
    | _ => exact le_ret
  | asg i e => exact fun h r => le_bind0 ((leX hc e h).E r) fun d => le_bind0 le_ofO fun _ => le_ret
  | asgF i e => exact fun h r => le_bind0 ((leX hc e h).E r) fun d => le_bind0 le_fz fun _ => le_ret
  | asgT is e =>
    intro h r
    refine le_bind0 ((leX hc e h).E r) fun d => ?_
    cases d <;> first
      | exact le_bind0 le_ofO fun _ => le_ret
      | exact le_bad
  | par is es => exact fun h r => le_bind0 ((leX hc es h).R r) fun ds => le_bind0 le_ofO fun _ => le_ret
  | expr e => exact fun h r => le_bind0 ((leX hc e h).E r) fun d => le_ret
  | app i e =>
    intro h r
    show le (match r[i]? with | some (.own xs) => _ | _ => .bad) _
    split
    · split
      · exact le_bind0 ((leX hc e h).E r) fun d => le_bind0 le_fz fun _ => le_ret
      · exact le_bad
    · exact le_bad
  | sset i ix e =>
    intro h r
    simp only [okS, Bool.and_eq_true] at h
    show le (match r[i]? with | some (.own xs) => _ | _ => .bad) _
    split
    · refine le_bind ((leX hc e h.1).E r) fun d => le_mono (n := 0 + cX cf ix) (le_bind le_fz fun d => le_bind0 ((leX hc ix h.2).E r) fun k => ?_) (by omega)
      cases k <;> first
        | exact le_bad
        | skip
      simp only
      split <;> first | exact le_ret | exact le_bad
    · exact le_bad
  | iff t a b iha ihb =>
    intro h r
    simp only [okS, Bool.and_eq_true] at h
    refine le_bind ((leX hc t h.1).B r) fun k => ?_
    split
    · exact le_mono (iha h.2.1 r) (by omega)
    · exact le_mono (ihb h.2.2 r) (by omega)
  | for_ tg it body ih =>
    intro h r
    simp only [okS, Bool.and_eq_true, Bool.or_eq_true, beq_iff_eq] at h
    obtain ⟨⟨h1, h2⟩, h4⟩ := h
    rcases h4 with h4 | h4
    · refine le_bindA ((leX hc it h1).I r) (ans_bX h4 r) fun ds hl => ?_
      exact le_mono (le_forL (fun d r => le_bindTg) (ih h2) ds r) (Nat.mul_le_mul_right _ hl)
    · refine le_bind ((leX hc it h1).I r) fun ds => ?_
      refine le_mono (le_forL (fun d r => le_bindTg) (ih h2) ds r) ?_
      rw [h4]
      simp
  | while_ t body ih =>
    intro h r
    simp only [okS, Bool.and_eq_true] at h
    exact le_whileL (leX hc t h.1).B (ih h.2) wh r
  | ret e =>
    intro h r
    cases e <;> first
      | (refine le_bind0 ((leX hc _ h).E r) fun d => ?_; split <;> first | exact le_ret | exact le_bad)
      | skip
    rename_i i
    show le (match r[i]? with | some (.own xs) => _ | some (.val d) => _ | _ => .bad) _
    split <;> first | exact le_ret | exact le_bad
  | retN => exact fun _ _ => le_ret
  | raise c => exact fun _ _ => le_err
  | frz i =>
    intro h r
    show le (match r[i]? with | some (.own xs) => _ | some (.val d) => _ | _ => .bad) _
    split <;> first | exact le_ret | exact le_bad
  | brk => exact fun _ _ => le_ret
  | cont => exact fun _ _ => le_ret
  | pass => exact fun _ _ => le_ret
end
/-! ### a program's costs, depth by depth -/
def look (t : List (Nat × Nat)) (k : Nat) : Nat := (t.lookup k).getD 0
def cT (P : Tab) (wh : Nat) : Nat → List (Nat × Nat)
  | 0 => []
  | n + 1 => let t := cT P wh n; (0, 1) :: P.map fun d => (d.1, cS (look t) wh d.2.body)
def okT (P : Tab) (wh : Nat) : Nat → Bool
  | 0 => true
  | n + 1 => okT P wh n && P.all fun d => okS (look (cT P wh n)) wh d.2.body
theorem lookup_map {P : Tab} {f : Df → Nat} {k : Nat} : (P.map fun d => (d.1, f d.2)).lookup k = (P.lookup k).map f := by
  induction P with
  | nil => rfl
  | cons p P ih =>
    obtain ⟨j, d⟩ := p
    rw [List.map_cons, List.lookup_cons, List.lookup_cons]
    cases k == j with
    | true => rfl
    | false => exact ih
theorem lookup_mem {P : Tab} {k : Nat} {d : Df} (h : P.lookup k = some d) : ∃ j, (j, d) ∈ P := by
  induction P with
  | nil => cases h
  | cons p P ih =>
    obtain ⟨j, e⟩ := p
    rw [List.lookup_cons] at h
    cases q : k == j with
    | true => rw [q] at h; cases h; exact ⟨j, List.mem_cons_self⟩
    | false => rw [q] at h; obtain ⟨j', h'⟩ := ih h; exact ⟨j', List.mem_cons_of_mem _ h'⟩
theorem le_drawP {ds : List D} : le (drawP ds) 1 := by
  unfold drawP
  split
  · split
    · exact fun d => le_ret
    · exact le_bad
  · exact le_bad
theorem leF {P : Tab} {wh : Nat} : ∀ n, okT P wh n = true → ∀ k ds, le (callF P wh n k ds) (look (cT P wh n) k)
  | 0, _, _, _ => le_bad
  | n + 1, h, 0, ds => by
    have e : look (cT P wh (n + 1)) 0 = 1 := rfl
    rw [e]
    show le (if n = 0 then .bad else drawP ds) 1
    split
    · exact le_bad
    · exact le_drawP
  | n + 1, h, k + 1, ds => by
    rw [show okT P wh (n + 1) = (okT P wh n && P.all fun d => okS (look (cT P wh n)) wh d.2.body) from rfl, Bool.and_eq_true] at h
    have e : look (cT P wh (n + 1)) (k + 1) = ((P.lookup (k + 1)).map fun d => cS (look (cT P wh n)) wh d.body).getD 0 := by
      show ((List.lookup (k + 1) ((0, 1) :: P.map fun d => (d.1, cS (look (cT P wh n)) wh d.2.body))).getD 0) = _
      rw [List.lookup_cons, show (k + 1 == 0) = false from rfl]
      exact congrArg (Option.getD · 0) (lookup_map (f := fun d => cS (look (cT P wh n)) wh d.body))
    rw [e]
    show le (match P.lookup (k + 1) with | some d => runD (callF P wh n) wh d ds | none => .bad) _
    cases q : P.lookup (k + 1) with
    | none => exact le_bad
    | some d =>
      obtain ⟨j, hj⟩ := lookup_mem q
      have ho := List.all_eq_true.mp h.2 _ hj
      show le (runD (callF P wh n) wh d ds) (cS (look (cT P wh n)) wh d.body)
      unfold runD
      split
      · refine le_bind0 (leS (fun f ds => leF n h.1 f ds) d.body ho _) fun fl => ?_
        cases fl <;> first | exact le_ret | exact le_bad
      · exact le_bad
end PV
end
section
set_option maxHeartbeats 400000
/-! PvE: reckoning, step by step. -/
namespace PV
open PySem
section
variable {call : Nat → List D → T D} {wh : Nat} {r : Env}
theorem e_non : (evs call .non).E r = .ret .non := rfl
theorem e_bl {b : Bool} : (evs call (.bl b)).E r = .ret (.bl b) := rfl
theorem e_int {i : Int} : (evs call (.int i)).E r = .ret (.int i) := rfl
theorem e_str {x : Str} : (evs call (.str x)).E r = .ret (.str x) := rfl
theorem e_var {i : Nat} : (evs call (.var i)).E r = getV r i := rfl
theorem e_con {x : Str} {i : Int} : (evs call (.con x i)).E r = .ret (.int i) := rfl
theorem e_bin {op : BOp} {a b : X} : (evs call (.bin op a b)).E r = (evs call a).E r >>= fun x => (evs call b).E r >>= fun y => binT op x y := rfl
theorem e_neg {a : X} : (evs call (.neg a)).E r = (evs call a).E r >>= negT := rfl
theorem e_cmp {op : COp} {a b : X} : (evs call (.cmp op a b)).E r = (evs call a).E r >>= fun x => (evs call b).E r >>= fun y => cmpT op x y >>= fun c => .ret (.bl c) := rfl
theorem e_chain {o p : COp} {a b c : X} : (evs call (.chain o p a b c)).E r = (evs call a).E r >>= fun x => (evs call b).E r >>= fun y => cmpT o x y >>= fun k => if k = true then (evs call c).E r >>= fun z => cmpT p y z >>= fun k => .ret (.bl k) else .ret (.bl false) := rfl
theorem e_and {a b : X} : (evs call (.and a b)).E r = (evs call a).E r >>= fun x => andT x ((evs call b).E r) := rfl
theorem e_or {a b : X} : (evs call (.or a b)).E r = (evs call a).E r >>= fun x => orT x ((evs call b).E r) := rfl
theorem e_not {a : X} : (evs call (.not a)).E r = (evs call a).E r >>= notT := rfl
theorem e_ite {t a b : X} : (evs call (.ite t a b)).E r = (evs call t).B r >>= fun k => if k = true then (evs call a).E r else (evs call b).E r := rfl
theorem e_tup {as : X} : (evs call (.tup as)).E r = (evs call as).A r >>= fun ds => lenT ds (.tup ds) := rfl
theorem e_lst {as : X} : (evs call (.lst as)).E r = (evs call as).A r >>= fun ds => lenT ds (.new ds) := rfl
theorem e_idx {a i : X} : (evs call (.idx a i)).E r = (evs call a).E r >>= fun x => (evs call i).E r >>= fun y => idxT x y := rfl
theorem e_slc {a l h : X} : (evs call (.slc a l h)).E r = (evs call a).E r >>= fun x => (evs call l).O r >>= fun l => (evs call h).O r >>= fun h => slcT x l h := rfl
theorem e_call {f : Nat} {as : X} : (evs call (.call f as)).E r = (evs call as).A r >>= fun ds => call f ds := rfl
theorem e_callK {f : Nat} {pm : List Nat} {as : X} : (evs call (.callK f pm as)).E r = (evs call as).A r >>= fun ds => ofO (permD pm ds) >>= fun ds => call f ds := rfl
theorem e_blt {f : Blt} {as : X} : (evs call (.blt f as)).E r = (evs call as).R r >>= fun ds => bltT f ds := rfl
theorem e_isk {f : Blt} {a : X} : (evs call (.isk f a)).E r = (evs call a).E r >>= fun x => bltT f [x] := rfl
theorem e_caught {nx : Nat} {a : X} : (evs call (.caught nx a)).E r = catchT nx ((evs call a).E r) := rfl
theorem e_isx {nx k : Nat} {a : X} : (evs call (.isx nx k a)).E r = (evs call a).E r >>= isxT nx k := rfl
theorem e_comp {tg : Tg} {it cond elt : X} {own : List (Str × Nat)} : (evs call (.comp tg it cond elt own)).E r = (evs call it).I r >>= fun ds => noErr (compL (compF tg (own.map (·.2)) (evs call cond).B (evs call elt).E r) ds) >>= fun ys => .ret (.new ys) := rfl
theorem e_op0 {o : O0} : (evs call (.op0 o)).E r = op0T o := rfl
theorem e_op1 {o : O1} {a : X} : (evs call (.op1 o a)).E r = (evs call a).E r >>= op1T o := rfl
theorem e_callM {f m : Nat} {pm : List Nat} {as bs : X} : (evs call (.callM f m pm as bs)).E r = (evs call as).A r >>= fun ds => (evs call bs).A r >>= fun es => ofO (permM m pm ds es) >>= fun ds => call f ds := rfl
-- tests
theorem b_op1 {o : O1} {a : X} : (evs call (.op1 o a)).B r = ((evs call a).E r >>= op1T o) >>= toB := rfl
theorem b_callM {f m : Nat} {pm : List Nat} {as bs : X} : (evs call (.callM f m pm as bs)).B r = ((evs call as).A r >>= fun ds => (evs call bs).A r >>= fun es => ofO (permM m pm ds es) >>= fun ds => call f ds) >>= toB := rfl
theorem i_callK {f : Nat} {pm : List Nat} {as : X} : (evs call (.callK f pm as)).I r = ((evs call as).A r >>= fun ds => ofO (permD pm ds) >>= fun ds => call f ds) >>= fun v => ofO (frozen v) := rfl
theorem i_op1 {o : O1} {a : X} : (evs call (.op1 o a)).I r = ((evs call a).E r >>= op1T o) >>= fun v => ofO (frozen v) := rfl
theorem o_emp : op0T .emp = .ret .emp := rfl
theorem o_revT {xs : List D} : op1T .rev (.tup xs) = .ret (.tup xs.reverse) := rfl
theorem b_var {i : Nat} : (evs call (.var i)).B r = getV r i >>= toB := rfl
theorem b_cmp {op : COp} {a b : X} : (evs call (.cmp op a b)).B r = ((evs call a).E r >>= fun x => (evs call b).E r >>= fun y => cmpT op x y >>= fun c => .ret (.bl c)) >>= toB := rfl
theorem b_chain {o p : COp} {a b c : X} : (evs call (.chain o p a b c)).B r = ((evs call a).E r >>= fun x => (evs call b).E r >>= fun y => cmpT o x y >>= fun k => if k = true then (evs call c).E r >>= fun z => cmpT p y z >>= fun k => .ret (.bl k) else .ret (.bl false)) >>= toB := rfl
theorem b_and {a b : X} : (evs call (.and a b)).B r = (evs call a).B r >>= fun k => if k = true then (evs call b).B r else .ret false := rfl
theorem b_or {a b : X} : (evs call (.or a b)).B r = (evs call a).B r >>= fun k => if k = true then .ret true else (evs call b).B r := rfl
theorem b_not {a : X} : (evs call (.not a)).B r = (evs call a).B r >>= fun k => .ret (!k) := rfl
theorem b_yes : (evs call .yes).B r = .ret true := rfl
theorem b_call {f : Nat} {as : X} : (evs call (.call f as)).B r = ((evs call as).A r >>= fun ds => call f ds) >>= toB := rfl
theorem b_callK {f : Nat} {pm : List Nat} {as : X} : (evs call (.callK f pm as)).B r = ((evs call as).A r >>= fun ds => ofO (permD pm ds) >>= fun ds => call f ds) >>= toB := rfl
theorem b_blt {f : Blt} {as : X} : (evs call (.blt f as)).B r = ((evs call as).R r >>= fun ds => bltT f ds) >>= toB := rfl
theorem b_isx {nx k : Nat} {a : X} : (evs call (.isx nx k a)).B r = ((evs call a).E r >>= isxT nx k) >>= toB := rfl
theorem b_isk {f : Blt} {a : X} : (evs call (.isk f a)).B r = ((evs call a).E r >>= fun x => bltT f [x]) >>= toB := rfl
-- arguments
theorem a_nil : (evs call .nil).A r = .ret [] := rfl
theorem a_cons {a as : X} : (evs call (.cons a as)).A r = (evs call a).E r >>= fun x => fz x >>= fun x => (evs call as).A r >>= fun xs => .ret (x :: xs) := rfl
theorem r_nil : (evs call .nil).R r = .ret [] := rfl
theorem r_cons {a as : X} : (evs call (.cons a as)).R r = (evs call a).E r >>= fun x => (evs call as).R r >>= fun xs => .ret (x :: xs) := rfl
theorem o_nopart : (evs call .nopart).O r = .ret none := rfl
theorem o_part {a : X} : (evs call (.part a)).O r = (evs call a).E r >>= partT := rfl
-- what is walked
theorem i_rng1 {a : X} : (evs call (.rng1 a)).I r = (evs call a).E r >>= rng1T := rfl
theorem i_rng2 {a b : X} : (evs call (.rng2 a b)).I r = (evs call a).E r >>= fun x => (evs call b).E r >>= fun y => rng2T x y := rfl
theorem i_zip {a b : X} : (evs call (.zip a b)).I r = (evs call a).E r >>= fun x => (evs call b).E r >>= fun y => ofO (zipD x y) := rfl
theorem i_enum {a : X} : (evs call (.enum a)).I r = (evs call a).E r >>= fun x => ofO ((frozenL x).map (enumD 0)) := rfl
theorem i_cap {a : X} : (evs call (.cap a)).I r = (evs call a).I r >>= fun ds => if ds.length ≤ lim then .ret ds else .bad := rfl
theorem i_var {i : Nat} : (evs call (.var i)).I r = getV r i >>= fun v => ofO (frozen v) := rfl
theorem i_blt {f : Blt} {as : X} : (evs call (.blt f as)).I r = ((evs call as).R r >>= fun ds => bltT f ds) >>= fun v => ofO (frozen v) := rfl
theorem i_call {f : Nat} {as : X} : (evs call (.call f as)).I r = ((evs call as).A r >>= fun ds => call f ds) >>= fun v => ofO (frozen v) := rfl
theorem i_tup {as : X} : (evs call (.tup as)).I r = ((evs call as).A r >>= fun ds => lenT ds (.tup ds)) >>= fun v => ofO (frozen v) := rfl
theorem i_lst {as : X} : (evs call (.lst as)).I r = ((evs call as).A r >>= fun ds => lenT ds (.new ds)) >>= fun v => ofO (frozen v) := rfl
theorem i_idx {a i : X} : (evs call (.idx a i)).I r = ((evs call a).E r >>= fun x => (evs call i).E r >>= fun y => idxT x y) >>= fun v => ofO (frozen v) := rfl
theorem i_slc {a l h : X} : (evs call (.slc a l h)).I r = ((evs call a).E r >>= fun x => (evs call l).O r >>= fun l => (evs call h).O r >>= fun h => slcT x l h) >>= fun v => ofO (frozen v) := rfl
-- operators
theorem q_add {i j : Int} : binT .add (.int i) (.int j) = .ret (.int (i + j)) := rfl
theorem q_sub {i j : Int} : binT .sub (.int i) (.int j) = .ret (.int (i - j)) := rfl
theorem q_mod {i j : Int} (h : 0 < j) : binT .mod (.int i) (.int j) = .ret (.int (i % j)) := if_pos h
theorem q_fdiv {i j : Int} (h : 0 < j) (h2 : j < 2 ^ 64) : binT .fdiv (.int i) (.int j) = .ret (.int (i / j)) := if_pos ⟨h, Int.lt_of_lt_of_le h2 (by decide +kernel)⟩
theorem q_mulL {i j : Int} (h : -(2 ^ 64) < i) (h2 : i < 2 ^ 64) : binT .mul (.int i) (.int j) = .ret (.int (i * j)) := by
  show (if mulOk i j = true then T.ret (D.int (i * j)) else T.bad) = _
  rw [if_pos]
  unfold mulOk
  rw [decide_eq_true ⟨h, h2⟩]
  rfl
theorem q_mulR {i j : Int} (h : -(2 ^ 64) < j) (h2 : j < 2 ^ 64) : binT .mul (.int i) (.int j) = .ret (.int (i * j)) := by
  show (if mulOk i j = true then T.ret (D.int (i * j)) else T.bad) = _
  rw [if_pos]
  unfold mulOk
  rw [decide_eq_true (p := -(2 ^ 64) < j ∧ j < 2 ^ 64) ⟨h, h2⟩, Bool.or_true]
theorem q_neg {i : Int} : negT (.int i) = .ret (.int (-i)) := rfl
theorem q_lt {i j : Int} : cmpT .lt (.int i) (.int j) = .ret (decide (i < j)) := rfl
theorem q_le {i j : Int} : cmpT .le (.int i) (.int j) = .ret (decide (i ≤ j)) := rfl
theorem q_gt {i j : Int} : cmpT .gt (.int i) (.int j) = .ret (decide (j < i)) := rfl
theorem q_ge {i j : Int} : cmpT .ge (.int i) (.int j) = .ret (decide (j ≤ i)) := rfl
theorem q_eqI {i j : Int} : cmpT .eq (.int i) (.int j) = .ret (decide (i = j)) := by
  show deq (.int i) (.int j) = _
  unfold deq
  simp [okPy, D.toPy, SeqAt.shaped, PyData.canLay0, PyData.depth, PyData.eqv]
  by_cases h : i = j <;> simp [h]
theorem q_neI {i j : Int} : cmpT .ne (.int i) (.int j) = .ret (!decide (i = j)) := by
  show (deq (.int i) (.int j) >>= fun c => .ret (!c)) = _
  rw [show deq (.int i) (.int j) = _ from q_eqI]
  rfl
theorem q_isNN : cmpT .is .non .non = .ret true := rfl
theorem q_isNT {xs : List D} : cmpT .is (.tup xs) .non = .ret false := rfl
theorem q_isNI {i : Int} : cmpT .is (.int i) .non = .ret false := rfl
theorem q_isNL {xs : List D} : cmpT .is (.lst xs) .non = .ret false := rfl
theorem q_isBB {j k : Bool} : cmpT .is (.bl j) (.bl k) = .ret (decide (j = k)) := rfl
theorem q_isNB {k : Bool} : cmpT .is (.bl k) .non = .ret false := rfl
theorem q_isNS {x : Str} : cmpT .is (.str x) .non = .ret false := rfl
theorem q_isnNN : cmpT .isn .non .non = .ret false := rfl
theorem q_isnNT {xs : List D} : cmpT .isn (.tup xs) .non = .ret true := rfl
theorem q_isnNI {i : Int} : cmpT .isn (.int i) .non = .ret true := rfl
theorem q_isnNL {xs : List D} : cmpT .isn (.lst xs) .non = .ret true := rfl
theorem q_andT {t : T D} : andT (.bl true) t = t := rfl
theorem q_andF {t : T D} : andT (.bl false) t = .ret (.bl false) := rfl
theorem q_orT {t : T D} : orT (.bl true) t = .ret (.bl true) := rfl
theorem q_orF {t : T D} : orT (.bl false) t = t := rfl
theorem q_not {b : Bool} : notT (.bl b) = .ret (.bl (!b)) := rfl
theorem q_toB {b : Bool} : toB (.bl b) = .ret b := rfl
theorem q_part {i : Int} : partT (.int i) = .ret (some i) := rfl
theorem q_fzI {i : Int} : fz (.int i) = .ret (.int i) := rfl
theorem q_fzB {b : Bool} : fz (.bl b) = .ret (.bl b) := rfl
theorem q_fzS {x : Str} : fz (.str x) = .ret (.str x) := rfl
theorem q_fzN : fz .non = .ret .non := rfl
theorem q_fzT {xs : List D} : fz (.tup xs) = .ret (.tup xs) := rfl
theorem q_fzL {xs : List D} : fz (.lst xs) = .ret (.lst xs) := rfl
theorem q_fzW {xs : List D} : fz (.new xs) = .ret (.lst xs) := rfl
theorem q_fzSt : fz .sta = .ret .sta := rfl
theorem q_fzSc {ns : List Int} : fz (.scr ns) = .ret (.scr ns) := rfl
theorem ite_bind {a b : Type} {c : Prop} [Decidable c] {x y : T a} {f : a → T b} : ((if c then x else y) >>= f) = if c then x >>= f else y >>= f := by
  by_cases h : c
  · rw [if_pos h, if_pos h]
  · rw [if_neg h, if_neg h]
theorem dite_true {a : Type} {c : Prop} [Decidable c] {x y : a} : (if decide c = true then x else y) = if c then x else y := by
  by_cases h : c
  · rw [if_pos h, if_pos (decide_eq_true h)]
  · rw [if_neg h, if_neg (by simp [h])]
theorem rng_ok {i j : Int} (h : -(2 ^ 62) ≤ i ∧ i < 2 ^ 62 ∧ -(2 ^ 62) ≤ j ∧ j < 2 ^ 62 ∧ (j - i).toNat ≤ lim) : rngI i j = .ret ((List.range (j - i).toNat).map fun k => .int (i + (k : Nat))) := by
  unfold rngI
  rw [if_pos (decide_eq_true h)]
-- statements
def seqK (k : Env → T Fl) : Fl → T Fl
  | .nx r => k r
  | f => .ret f
theorem s_nil : ex call wh .nil r = .ret (.nx r) := rfl
theorem s_cons {s t : S} : ex call wh (.cons s t) r = ex call wh s r >>= seqK (ex call wh t) := by
  have q : (fun fl : Fl => match fl with | .nx r2 => ex call wh t r2 | f => T.ret f) = seqK (ex call wh t) := by
    funext fl
    cases fl <;> rfl
  rw [← q]
  rfl
theorem k_nx {k : Env → T Fl} : seqK k (.nx r) = k r := rfl
theorem k_rt {k : Env → T Fl} {d : D} : seqK k (.rt d) = .ret (.rt d) := rfl
theorem k_bk {k : Env → T Fl} : seqK k (.bk r) = .ret (.bk r) := rfl
theorem k_ct {k : Env → T Fl} : seqK k (.ct r) = .ret (.ct r) := rfl
theorem s_asg {i : Nat} {e : X} : ex call wh (.asg i e) r = (evs call e).E r >>= fun d => slOf d >>= fun s => .ret (.nx (r.set i s)) := rfl
theorem s_asgF {i : Nat} {e : X} : ex call wh (.asgF i e) r = (evs call e).E r >>= fun d => fz d >>= fun d => .ret (.nx (r.set i (.val d))) := rfl
def asgK (is : List Nat) (r : Env) : D → T Fl
  | .tup ds => ofO (setAll is ds r) >>= fun r2 => .ret (.nx r2)
  | _ => .bad
theorem s_asgT {is : List Nat} {e : X} : ex call wh (.asgT is e) r = (evs call e).E r >>= asgK is r := by
  have q : (fun d : D => match d with | .tup ds => ofO (setAll is ds r) >>= fun r2 => T.ret (Fl.nx r2) | _ => T.bad) = asgK is r := by
    funext d
    cases d <;> rfl
  rw [← q]
  rfl
theorem k_asg {is : List Nat} {ds : List D} : asgK is r (.tup ds) = ofO (setAll is ds r) >>= fun r2 => .ret (.nx r2) := rfl
theorem s_par {is : List Nat} {es : X} : ex call wh (.par is es) r = (evs call es).R r >>= fun ds => ofO (parT is ds r) >>= fun r2 => .ret (.nx r2) := rfl
theorem s_expr {e : X} : ex call wh (.expr e) r = (evs call e).E r >>= fun _ => .ret (.nx r) := rfl
theorem s_iff {t : X} {a b : S} : ex call wh (.iff t a b) r = (evs call t).B r >>= fun k => if k = true then ex call wh a r else ex call wh b r := rfl
theorem s_for {tg : Tg} {it : X} {b : S} : ex call wh (.for_ tg it b) r = (evs call it).I r >>= fun ds => forL (bindTg tg) (ex call wh b) ds r := rfl
theorem s_while {t : X} {b : S} : ex call wh (.while_ t b) r = whileL (evs call t).B (ex call wh b) wh r := rfl
theorem s_retN : ex call wh .retN r = .ret (.rt .non) := rfl
theorem s_raise {c : Nat} : ex call wh (.raise c) r = .err c := rfl
theorem s_brk : ex call wh .brk r = .ret (.bk r) := rfl
theorem s_cont : ex call wh .cont r = .ret (.ct r) := rfl
theorem s_pass : ex call wh .pass r = .ret (.nx r) := rfl
def frzK (r : Env) (i : Nat) : Option Sl → T Fl
  | some (.own xs) => .ret (.nx (r.set i (.val (.lst xs))))
  | some (.val _) => .ret (.nx r)
  | _ => .bad
theorem s_frz {i : Nat} : ex call wh (.frz i) r = frzK r i r[i]? := by
  show (match r[i]? with | some (.own xs) => T.ret (Fl.nx (r.set i (.val (.lst xs)))) | some (.val d) => T.ret (Fl.nx r) | _ => T.bad) = _
  cases r[i]? with
  | none => rfl
  | some s => cases s <;> rfl
theorem k_frzO {i : Nat} {xs : List D} : frzK r i (some (.own xs)) = .ret (.nx (r.set i (.val (.lst xs)))) := rfl
theorem k_frzV {i : Nat} {d : D} : frzK r i (some (.val d)) = .ret (.nx r) := rfl
def retVK : Option Sl → T Fl
  | some (.own xs) => .ret (.rt (.new xs))
  | some (.val d) => .ret (.rt d)
  | _ => .bad
theorem s_retV {i : Nat} : ex call wh (.ret (.var i)) r = retVK r[i]? := by
  show (match r[i]? with | some (.own xs) => T.ret (Fl.rt (.new xs)) | some (.val d) => T.ret (Fl.rt d) | _ => T.bad) = _
  cases r[i]? with
  | none => rfl
  | some s => cases s <;> rfl
theorem k_retO {xs : List D} : retVK (some (.own xs)) = .ret (.rt (.new xs)) := rfl
theorem k_retV {d : D} : retVK (some (.val d)) = .ret (.rt d) := rfl
def retK : D → T Fl
  | .bor _ => .bad
  | d => .ret (.rt d)
theorem s_ret {e : X} (h : ∀ i, e ≠ .var i) : ex call wh (.ret e) r = (evs call e).E r >>= retK := by
  have q : (fun d : D => match d with | .bor _ => T.bad | d => T.ret (Fl.rt d)) = retK := by
    funext d
    cases d <;> rfl
  cases e <;> first
    | exact (h _ rfl).elim
    | (rw [← q]; rfl)
theorem s_ret_non  : ex call wh (.ret .non) r = (evs call .non).E r >>= retK := s_ret (by simp)
theorem s_ret_bl {b : Bool} : ex call wh (.ret (.bl b)) r = (evs call (.bl b)).E r >>= retK := s_ret (by simp)
theorem s_ret_int {i : Int} : ex call wh (.ret (.int i)) r = (evs call (.int i)).E r >>= retK := s_ret (by simp)
theorem s_ret_str {x : Str} : ex call wh (.ret (.str x)) r = (evs call (.str x)).E r >>= retK := s_ret (by simp)
theorem s_ret_con {x : Str} {i : Int} : ex call wh (.ret (.con x i)) r = (evs call (.con x i)).E r >>= retK := s_ret (by simp)
theorem s_ret_bin {op : BOp} {a b : X} : ex call wh (.ret (.bin op a b)) r = (evs call (.bin op a b)).E r >>= retK := s_ret (by simp)
theorem s_ret_neg {a : X} : ex call wh (.ret (.neg a)) r = (evs call (.neg a)).E r >>= retK := s_ret (by simp)
theorem s_ret_cmp {op : COp} {a b : X} : ex call wh (.ret (.cmp op a b)) r = (evs call (.cmp op a b)).E r >>= retK := s_ret (by simp)
theorem s_ret_chain {o p : COp} {a b c : X} : ex call wh (.ret (.chain o p a b c)) r = (evs call (.chain o p a b c)).E r >>= retK := s_ret (by simp)
theorem s_ret_and {a b : X} : ex call wh (.ret (.and a b)) r = (evs call (.and a b)).E r >>= retK := s_ret (by simp)
theorem s_ret_or {a b : X} : ex call wh (.ret (.or a b)) r = (evs call (.or a b)).E r >>= retK := s_ret (by simp)
theorem s_ret_not {a : X} : ex call wh (.ret (.not a)) r = (evs call (.not a)).E r >>= retK := s_ret (by simp)
theorem s_ret_ite {t a b : X} : ex call wh (.ret (.ite t a b)) r = (evs call (.ite t a b)).E r >>= retK := s_ret (by simp)
theorem s_ret_tup {as : X} : ex call wh (.ret (.tup as)) r = (evs call (.tup as)).E r >>= retK := s_ret (by simp)
theorem s_ret_lst {as : X} : ex call wh (.ret (.lst as)) r = (evs call (.lst as)).E r >>= retK := s_ret (by simp)
theorem s_ret_idx {a i : X} : ex call wh (.ret (.idx a i)) r = (evs call (.idx a i)).E r >>= retK := s_ret (by simp)
theorem s_ret_slc {a lo hi : X} : ex call wh (.ret (.slc a lo hi)) r = (evs call (.slc a lo hi)).E r >>= retK := s_ret (by simp)
theorem s_ret_call {f : Nat} {as : X} : ex call wh (.ret (.call f as)) r = (evs call (.call f as)).E r >>= retK := s_ret (by simp)
theorem s_ret_callK {f : Nat} {pm : List Nat} {as : X} : ex call wh (.ret (.callK f pm as)) r = (evs call (.callK f pm as)).E r >>= retK := s_ret (by simp)
theorem s_ret_op0 {o : O0} : ex call wh (.ret (.op0 o)) r = (evs call (.op0 o)).E r >>= retK := s_ret (by simp)
theorem s_ret_op1 {o : O1} {a : X} : ex call wh (.ret (.op1 o a)) r = (evs call (.op1 o a)).E r >>= retK := s_ret (by simp)
theorem s_ret_callM {f m : Nat} {pm : List Nat} {as bs : X} : ex call wh (.ret (.callM f m pm as bs)) r = (evs call (.callM f m pm as bs)).E r >>= retK := s_ret (by simp)
theorem s_ret_blt {f : Blt} {as : X} : ex call wh (.ret (.blt f as)) r = (evs call (.blt f as)).E r >>= retK := s_ret (by simp)
theorem s_ret_isx {nx k : Nat} {a : X} : ex call wh (.ret (.isx nx k a)) r = (evs call (.isx nx k a)).E r >>= retK := s_ret (by simp)
theorem s_ret_isk {f : Blt} {a : X} : ex call wh (.ret (.isk f a)) r = (evs call (.isk f a)).E r >>= retK := s_ret (by simp)
theorem s_ret_comp {tg : Tg} {it cond elt : X} {own : List (Str × Nat)} : ex call wh (.ret (.comp tg it cond elt own)) r = (evs call (.comp tg it cond elt own)).E r >>= retK := s_ret (by simp)
def appK (r : Env) (i : Nat) (e : T D) : Option Sl → T Fl
  | some (.own xs) => if xs.length < lim then e >>= fun d => fz d >>= fun d => .ret (.nx (r.set i (.own (xs ++ [d])))) else .bad
  | _ => .bad
theorem s_app {i : Nat} {e : X} : ex call wh (.app i e) r = appK r i ((evs call e).E r) r[i]? := by
  show (match r[i]? with | some (.own xs) => (if xs.length < lim then (evs call e).E r >>= fun d => fz d >>= fun d => T.ret (Fl.nx (r.set i (.own (xs ++ [d])))) else T.bad) | _ => T.bad) = _
  cases r[i]? with
  | none => rfl
  | some s => cases s <;> rfl
theorem k_app {i : Nat} {e : T D} {xs : List D} (h : xs.length < lim) : appK r i e (some (.own xs)) = e >>= fun d => fz d >>= fun d => .ret (.nx (r.set i (.own (xs ++ [d])))) := if_pos h
def runK : Fl → T D
  | .rt v => .ret v
  | .nx _ => .ret .non
  | _ => .bad
theorem run_eq {d : Df} {ds : List D} (h : ds.length = d.ps.length) : runD call wh d ds = ex call wh d.body (startE d.N ds) >>= runK := by
  have q : (fun fl : Fl => match fl with | .rt v => T.ret v | .nx _ => T.ret D.non | _ => T.bad) = runK := by
    funext fl
    cases fl <;> rfl
  unfold runD
  rw [if_pos h, ← q]
  all_goals rfl
theorem k_runR {d : D} : runK (.rt d) = .ret d := rfl
theorem k_runN : runK (.nx r) = .ret .non := rfl
def forK (set : D → Env → T Env) (body : Env → T Fl) (ds : List D) : Fl → T Fl
  | .nx r => forL set body ds r
  | .ct r => forL set body ds r
  | .bk r => .ret (.nx r)
  | .rt v => .ret (.rt v)
theorem for_nil {set : D → Env → T Env} {body : Env → T Fl} : forL set body [] r = .ret (.nx r) := rfl
theorem for_cons {set : D → Env → T Env} {body : Env → T Fl} {d : D} {ds : List D} : forL set body (d :: ds) r = set d r >>= fun r1 => body r1 >>= forK set body ds := by
  have q : (fun fl : Fl => match fl with | .nx r2 => forL set body ds r2 | .ct r2 => forL set body ds r2 | .bk r2 => T.ret (Fl.nx r2) | .rt v => T.ret (Fl.rt v)) = forK set body ds := by
    funext fl
    cases fl <;> rfl
  rw [← q]
  rfl
theorem k_forN {set : D → Env → T Env} {body : Env → T Fl} {ds : List D} : forK set body ds (.nx r) = forL set body ds r := rfl
theorem k_forC {set : D → Env → T Env} {body : Env → T Fl} {ds : List D} : forK set body ds (.ct r) = forL set body ds r := rfl
theorem k_forB {set : D → Env → T Env} {body : Env → T Fl} {ds : List D} : forK set body ds (.bk r) = .ret (.nx r) := rfl
theorem k_forR {set : D → Env → T Env} {body : Env → T Fl} {ds : List D} {v : D} : forK set body ds (.rt v) = .ret (.rt v) := rfl
theorem g_nm {i : Nat} {d : D} : bindTg (.nm i) d r = .ret (r.set i (.val d)) := rfl
theorem g_tp {is : List Nat} {ds : List D} : bindTg (.tp is) (.tup ds) r = ofO (setAll is ds r) := rfl
theorem o_some {a : Type} {x : a} : ofO (some x) = .ret x := rfl
/-- a comprehension over what is reckoned -/
theorem comp_map {tg : Tg} {ws : List Nat} {b : Env → T Bool} {e : Env → T D} {f : D → D} : ∀ {ds : List D}, (∀ d ∈ ds, compF tg ws b e r d = .ret (some (f d))) → compL (compF tg ws b e r) ds = .ret (ds.map f)
  | [], _ => rfl
  | d :: ds, h => by
    unfold compL
    rw [h d List.mem_cons_self, ret_bind, comp_map (fun x hx => h x (List.mem_cons_of_mem _ hx))]
    rfl
theorem comp_fmap {tg : Tg} {ws : List Nat} {b : Env → T Bool} {e : Env → T D} {f : D → Option D} : ∀ {ds : List D}, (∀ d ∈ ds, compF tg ws b e r d = .ret (f d)) → compL (compF tg ws b e r) ds = .ret (ds.filterMap f)
  | [], _ => rfl
  | d :: ds, h => by
    unfold compL
    rw [h d List.mem_cons_self, ret_bind, comp_fmap (fun x hx => h x (List.mem_cons_of_mem _ hx)), ret_bind, List.filterMap_cons]
    cases f d <;> rfl
theorem noErr_ret {a : Type} {x : a} : noErr (.ret x) = .ret x := rfl
theorem compF_eq {tg : Tg} {ws : List Nat} {b : Env → T Bool} {e : Env → T D} {d : D} : compF tg ws b e r d = bindTg tg d (wipeE r ws) >>= fun r2 => b r2 >>= fun k => if k = true then e r2 >>= fun y => fz y >>= fun y => .ret (some y) else .ret none := rfl
theorem comp_mapM {α : Type} {tg : Tg} {ws : List Nat} {b : Env → T Bool} {e : Env → T D} {g : α → D} {f : α → D} {l : List α} (h : ∀ x ∈ l, compF tg ws b e r (g x) = .ret (some (f x))) : compL (compF tg ws b e r) (l.map g) = .ret (l.map f) := by
  induction l with
  | nil => rfl
  | cons x l ih =>
    rw [List.map_cons]
    unfold compL
    rw [h x List.mem_cons_self, ret_bind, ih fun y hy => h y (List.mem_cons_of_mem _ hy)]
    rfl
theorem comp_fmapM {α : Type} {tg : Tg} {ws : List Nat} {b : Env → T Bool} {e : Env → T D} {g : α → D} {f : α → Option D} {l : List α} (h : ∀ x ∈ l, compF tg ws b e r (g x) = .ret (f x)) : compL (compF tg ws b e r) (l.map g) = .ret (l.filterMap f) := by
  induction l with
  | nil => rfl
  | cons x l ih =>
    rw [List.map_cons]
    unfold compL
    rw [h x List.mem_cons_self, ret_bind, ih fun y hy => h y (List.mem_cons_of_mem _ hy), ret_bind, List.filterMap_cons]
    cases f x <;> rfl
theorem filterMap_ite {α β : Type} {p : α → Prop} [DecidablePred p] {g : α → β} : ∀ l : List α, (l.filterMap fun x => if p x then some (g x) else none) = (l.filter fun x => decide (p x)).map g
  | [] => rfl
  | x :: l => by
    rw [List.filterMap_cons, List.filter_cons, filterMap_ite l]
    by_cases h : p x <;> simp [h]
theorem idx_last {xs : List D} : L2.atI xs (-1) = xs.getLast? := by
  unfold L2.atI L2.ixN
  rw [if_neg (by decide)]
  cases xs with
  | nil => rfl
  | cons x xs =>
    rw [if_pos (by rw [List.length_cons]; omega), List.getLast?_eq_getElem?, Option.bind_some]
    congr 1
    rw [List.length_cons]
    omega
theorem idx_nat {xs : List D} {i : Nat} {x : D} (h : xs[i]? = some x) : L2.atI xs (i : Int) = some x := by
  have hl := (List.getElem?_eq_some_iff.mp h).1
  unfold L2.atI L2.ixN
  rw [if_pos (by omega), if_pos (by omega), Option.bind_some]
  exact h
/-- handed back, or on -/
def hitK (o : Option D) (r : Env) : T Fl := match o with
  | some v => .ret (.rt v)
  | none => .ret (.nx r)
theorem for_find {α : Type} {set : D → Env → T Env} {body : Env → T Fl} {g : α → D} {Inv : Env → Prop} {hit : α → Option D} : ∀ (l : List α),
    (∀ x ∈ l, ∀ r, Inv r → ∃ r1, set (g x) r = .ret r1 ∧ ∃ r2, Inv r2 ∧ body r1 = hitK (hit x) r2) → ∀ r, Inv r → ∃ r2, Inv r2 ∧ forL set body (l.map g) r = hitK (l.findSome? hit) r2
  | [], _, r, hr => ⟨r, hr, rfl⟩
  | x :: l, h, r, hr => by
    obtain ⟨r1, e1, r2, h2, e2⟩ := h x List.mem_cons_self r hr
    rw [List.map_cons, for_cons, e1, ret_bind, e2, List.findSome?_cons]
    cases q : hit x with
    | some v => exact ⟨r2, h2, rfl⟩
    | none =>
      obtain ⟨r3, h3, e3⟩ := for_find l (fun y hy => h y (List.mem_cons_of_mem _ hy)) r2 h2
      exact ⟨r3, h3, e3⟩
theorem for_fold {α St : Type} {set : D → Env → T Env} {body : Env → T Fl} {g : α → D} {Inv : St → Env → Prop} {step : α → St → St} : ∀ (l : List α),
    (∀ x ∈ l, ∀ s r, Inv s r → ∃ r1, set (g x) r = .ret r1 ∧ ∃ r2, Inv (step x s) r2 ∧ body r1 = .ret (.nx r2)) → ∀ s r, Inv s r → ∃ r2, Inv (l.foldl (fun s x => step x s) s) r2 ∧ forL set body (l.map g) r = .ret (.nx r2)
  | [], _, s, r, hr => ⟨r, hr, rfl⟩
  | x :: l, h, s, r, hr => by
    obtain ⟨r1, e1, r2, h2, e2⟩ := h x List.mem_cons_self s r hr
    rw [List.map_cons, for_cons, e1, ret_bind, e2]
    exact for_fold l (fun y hy => h y (List.mem_cons_of_mem _ hy)) (step x s) r2 h2
/-- a loop that draws: Inv by what is still to come -/
def goP (I : Env → Prop) (V : D → Prop) : Fl → Prop
  | .nx r => I r
  | .rt v => V v
  | _ => False
theorem for_all {α : Type} {set : D → Env → T Env} {body : Env → T Fl} {g : α → D} {Inv : List α → Env → Prop} {V : D → Prop} {E : Nat → Prop} : ∀ (l : List α),
    (∀ x l' r, Inv (x :: l') r → ∃ r1, set (g x) r = .ret r1 ∧ (body r1).All0 (goP (Inv l') V) E) → ∀ r, Inv l r → (forL set body (l.map g) r).All0 (goP (Inv []) V) E
  | [], _, r, hr => hr
  | x :: l, h, r, hr => by
    obtain ⟨r1, e1, h2⟩ := h x l r hr
    rw [List.map_cons, for_cons, e1, ret_bind, all0_bind]
    refine All0.mono h2 (fun fl q => ?_) fun _ e => e
    cases fl with
    | nx r2 => exact for_all l h r2 q
    | rt v => exact q
    | bk _ => exact q.elim
    | ct _ => exact q.elim
theorem noErr_all0 {a : Type} {P : a → Prop} {E : Nat → Prop} {t : T a} (h : t.All0 P fun _ => False) : (noErr t).All0 P E := by
  induction t with
  | ret x => exact h
  | err c => exact h.elim
  | bad => exact h
  | draw n k ih => exact fun d h0 h1 => ih d (h d h0 h1)
theorem compL_all {α : Type} {f : D → T (Option D)} {g : α → D} {P : D → Prop} {E : Nat → Prop} : ∀ (l : List α), (∀ x ∈ l, (f (g x)).All0 (fun o => ∃ y, o = some y ∧ P y) E) → (compL f (l.map g)).All0 (fun ys => ys.length = l.length ∧ ∀ y ∈ ys, P y) E
  | [], _ => ⟨rfl, fun _ h => by cases h⟩
  | x :: l, h => by
    rw [List.map_cons]
    unfold compL
    rw [all0_bind]
    refine All0.mono (h x List.mem_cons_self) (fun o q => ?_) fun _ e => e
    obtain ⟨y, rfl, hy⟩ := q
    rw [all0_bind]
    refine All0.mono (compL_all l fun z hz => h z (List.mem_cons_of_mem _ hz)) (fun ys q => ?_) fun _ e => e
    refine ⟨congrArg Nat.succ q.1, fun z hz => ?_⟩
    rcases List.mem_cons.mp hz with e | e
    · rw [e]; exact hy
    · exact q.2 z e
theorem draw_ok {k : Int} (h : 0 < k) (h2 : k < 2 ^ 64) : drawP [.sta, .int k] = .draw k fun d => .ret (.int d) := by
  show (if decide (0 < k ∧ k < 2 ^ 200) = true then T.draw k fun d => T.ret (D.int d) else T.bad) = _
  rw [if_pos (decide_eq_true ⟨h, Int.lt_of_lt_of_le h2 (by decide +kernel)⟩)]
theorem findSome_pairs {α β γ : Type} {M : α → List β} {p : α × β → Bool} {v : α × β → γ} : ∀ (l : List α), (l.findSome? fun a => (M a).findSome? fun b => if p (a, b) = true then some (v (a, b)) else none) = ((l.flatMap fun a => (M a).map fun b => (a, b)).find? p).map v
  | [] => rfl
  | a :: l => by
    have one : ∀ m : List β, (m.findSome? fun b => if p (a, b) = true then some (v (a, b)) else none) = ((m.map fun b => (a, b)).find? p).map v := by
      intro m
      induction m with
      | nil => rfl
      | cons b m ih =>
        rw [List.findSome?_cons, List.map_cons, List.find?_cons]
        cases p (a, b) with
        | true => rfl
        | false => exact ih
    rw [List.findSome?_cons, one, List.flatMap_cons, List.find?_append, findSome_pairs l]
    cases (List.find? p ((M a).map fun b => (a, b))) with
    | none => rfl
    | some x => rfl
end
/-- All0, closed: Lean's whnf stops here -/
structure Yes {a : Type} (P : a → Prop) (t : T a) : Prop where
  all : t.All0 P fun _ => False
theorem Yes.of_eq {a : Type} {P : a → Prop} {t u : T a} (e : t = u) (h : Yes P u) : Yes P t := e ▸ h
end PV
end
section
set_option maxHeartbeats 4000000
/-! PvH: what the head says of own exceptions, of tables, of _law_caught. -/
namespace PV
open PySem PySem.Spec PyProof.Rows L2
def excB (K : PySem.W.Frag) (D : Addr) : Bool :=
  He.eqO (PySem.W.findIn K (.ref D) "__getattribute__") (some (some (.builtin "BaseException.__getattribute__"))) && (He.eqO (PySem.W.findIn K (.ref D) "__getattr__") (some none) && (decide (PySem.W.subIn K (.ref D) (.type "BaseException") = some true) && (PySem.W.hasDictIn K D &&
    (He.eqO (PySem.W.findIn K (.ref D) "__class__") (some (some (.builtin "object.__class__"))) && (He.eqO (PySem.W.specialIn K (.builtin "object.__class__") "__get__") (some (some (.builtin "getset_descriptor.__get__"))) && (decide (PySem.W.takesIn K (.builtin "object.__class__") = some true) && decide (PySem.W.mroIn K D (.type "object") = some true)))))))
theorem excB_ok {K : PySem.W.Frag} {D : Addr} (h : excB K D = true) : ExcC K D := by
  obtain ⟨h1, h⟩ := He.ba h
  obtain ⟨h2, h⟩ := He.ba h
  obtain ⟨h3, h⟩ := He.ba h
  obtain ⟨h4, h⟩ := He.ba h
  obtain ⟨h5, h⟩ := He.ba h
  obtain ⟨h6, h⟩ := He.ba h
  obtain ⟨h7, h8⟩ := He.ba h
  exact ⟨He.eqO_ok h1, He.eqO_ok h2, of_decide_eq_true h3, h4, He.eqO_ok h5, He.eqO_ok h6, of_decide_eq_true h7, of_decide_eq_true h8⟩
/-- the own classes cl (by name), isinstance of those at ks -/
def exsB (K : PySem.W.Frag) (ca : Nat → Addr) (nx : Nat) (ks : List Nat) : Bool :=
  ((List.range nx).all fun c => excB K (ca c)) && ks.all fun k => decide (PySem.W.kitOne K (.type "NoneType") (.ref (ca k)) = some false) && (List.range nx).all fun c => decide (PySem.W.kitOne K (.ref (ca c)) (.ref (ca k)) = some (decide (c = k)))
theorem exsB_ok {g : G} {nx : Nat} {ks : List Nat} (h : exsB g.K g.cad nx ks = true) {k : Nat} (hk : k ∈ ks) {y : Str} (hm : g.mg y = some (.ref (g.cad k))) : ExsF g nx k y := by
  obtain ⟨h1, h2⟩ := He.ba h
  obtain ⟨h3, h4⟩ := He.ba (List.all_eq_true.mp h2 k hk)
  exact ⟨hm, fun c hc => of_decide_eq_true (List.all_eq_true.mp h4 c (List.mem_range.mpr hc)), of_decide_eq_true h3, fun c hc => excB_ok (List.all_eq_true.mp h1 c (List.mem_range.mpr hc))⟩
def cauB (K : PySem.W.Frag) (ca : Nat → Addr) (nx : Nat) (CS : Addr) : Bool := (List.range nx).all fun c => decide (PySem.W.exmOne K (.ref (ca c)) (.ref CS) = some true)
theorem cauF_of {g : G} {nx : Nat} {st : Stmt} {f CS : Addr} {fd : FuncData} (F : FunD g.K "_law_caught" "_law_caught" (defArgs st) (defBody st) (defScope st) [] [] f fd) (hm : g.mg "_law_caught" = some (.ref f))
    {k : Nat} {p1 p2 p3 p4 p5 p6 p7 p8 p9 p10 p11 p12 p13 p14 : Pos} (hb : defBody st = caughtB p1 p2 p3 p4 p5 p6 p7 p8 p9 p10 p11 p12 p13 p14 k) (S : FnScope NC ["work"] (defScope st)) (bb : Binds g.K fd ["work"] [])
    (h1 : (defScope st).names.lookup ("HoweverError" : Str) = some .globalImplicit) (h2 : (defScope st).names.lookup ("caught" : Str) = some .local) (h3 : (defScope st).names.lookup ("error" : Str) = some .local) (hv : Vis (defScope st) "work")
    (hC : g.mg "HoweverError" = some (.ref CS)) (hx : cauB g.K g.cad nx CS = true) : CauF g nx := by
  obtain ⟨oc, od, dV, kV, doc, pm, an, cdv, ct, osl, rfl, lk, hcd, _, _⟩ := F.ex
  rw [hb] at lk bb
  exact ⟨f, CS, k, p1, p2, p3, p4, p5, p6, p7, p8, p9, p10, p11, p12, p13, p14, _, _, dV, kV, doc, pm, cdv, ct, oc, an, od, osl, hm, F.kp, lk, hcd, bb, S, hv, h1, h2, h3, hC, fun c hc => of_decide_eq_true (List.all_eq_true.mp hx c (List.mem_range.mpr hc))⟩
/-! ### tables -/
def TK (K : PySem.W.Frag) (tf : List He.Defn) : List (Addr × Str) := tf.map fun p => ((He.cT K p).2, p.1 ++ ".<locals>." ++ "<lambda>")
theorem nodup_inj {α β : Type} {f : α → β} : ∀ {l : List α}, (l.map f).Nodup → ∀ {x y : α}, x ∈ l → y ∈ l → f x = f y → x = y
  | a :: l, h, x, y, hx, hy, e => by
    rw [List.map_cons, List.nodup_cons] at h
    rcases List.mem_cons.mp hx with rfl | hx2 <;> rcases List.mem_cons.mp hy with rfl | hy2
    · rfl
    · exact absurd (e ▸ List.mem_map_of_mem hy2) h.1
    · exact absurd (e.symm ▸ List.mem_map_of_mem hx2) h.1
    · exact nodup_inj h.2 hx2 hy2 e
theorem lamD_of {P : Program} {w : World} {K : PySem.W.Frag} {mg : Str → Option Value} {base : Heap} {cad : Nat → Addr} {tf : List He.Defn} {Hs : Hp} {s gr ce : Addr} {x : Str} {pa : Arguments} {bo : List Stmt} {sc : Scope} {fd : FuncData}
    (F : FunD K x x pa bo sc [] [] (He.fAd K (x, none)) fd) (hm : ((x, none) : He.Defn) ∈ tf) (nd : (tf.map fun p => (He.cT K p).2).Nodup) (TB : ∀ p ∈ tf.map (He.cT K), LamX.TabB base mg p.1 p.2) : LamD (gD P w K mg base cad (TK K tf) Hs s gr ce) x fd := by
  refine ⟨(He.cT K (x, none)).1, (He.cT K (x, none)).2, TB _ (List.mem_map_of_mem hm), ?_, List.mem_map.mpr ⟨(x, none), hm, rfl⟩, fun q hq e => ?_⟩
  · obtain ⟨oc, od, dV, kV, doc, pm, an, cdv, ct, osl, rfl, lk, hcd, _, _⟩ := F.ex
    obtain ⟨c, rfl⟩ := He.codeIn_ref hcd
    show Value.ref c = Value.ref (He.codeOf K (x, none))
    rw [He.codeOf_eq lk rfl]
  · obtain ⟨p, hp, rfl⟩ := List.mem_map.mp hq
    have z := nodup_inj nd hp hm e
    rw [z]
end PV
end
section
set_option maxHeartbeats 4000000
namespace LW
open PySem PV
def d1 : Df := ⟨"is_whole", ["value"], ["value"],
  (.cons (.ret (.and (.isk .isint (.var 0)) (.and (.not (.isk .isbool (.var 0))) (.chain .lt .lt (.neg (.bin .pow (.int 10) (.int 18))) (.var 0) (.bin .pow (.int 10) (.int 18)))))) .nil)⟩
def d2 : Df := ⟨"is_number", ["value", "least", "most"], ["value", "least", "most"],
  (.cons (.ret (.and (.call 1 (.cons (.var 0) .nil)) (.chain .le .le (.var 1) (.var 0) (.var 2)))) .nil)⟩
def d3 : Df := ⟨"need_wrong", ["claims", "wrong", "most"], ["claims", "wrong", "most"],
  (.cons (.iff (.not (.call 2 (.cons (.var 0) (.cons (.int 1) (.cons (.var 2) .nil))))) (.cons (.raise 2) .nil) .nil) (.cons (.iff (.not (.call 2 (.cons (.var 1) (.cons (.int 1) (.cons (.var 0) .nil))))) (.cons (.raise 4) .nil) .nil) .nil))⟩
def d4 : Df := ⟨"miss_chance", ["claims", "wrong", "sample"], ["claims", "wrong", "sample", "up", "down"],
  (.cons (.expr (.call 3 (.cons (.var 0) (.cons (.var 1) (.cons (.con "MOST_CLAIMS" 60) .nil))))) (.cons (.iff (.not (.call 2 (.cons (.var 2) (.cons (.int 0) (.cons (.var 0) .nil))))) (.cons (.raise 3) .nil) .nil) (.cons (.par [3, 4] (.cons (.blt .comb (.cons (.bin .sub (.var 0) (.var 1)) (.cons (.var 2) .nil))) (.cons (.blt .comb (.cons (.var 0) (.cons (.var 2) .nil))) .nil))) (.cons (.ret (.tup (.cons (.bin .fdiv (.var 3) (.blt .gcd (.cons (.var 3) (.cons (.var 4) .nil)))) (.cons (.bin .fdiv (.var 4) (.blt .gcd (.cons (.var 3) (.cons (.var 4) .nil)))) .nil)))) .nil))))⟩
def d5 : Df := ⟨"least_sample", ["claims", "wrong", "chance"], ["claims", "wrong", "chance", "up", "down", "sample", "item"],
  (.cons (.expr (.call 3 (.cons (.var 0) (.cons (.var 1) (.cons (.con "MOST_SAMPLED" 1000) .nil))))) (.cons (.iff (.or (.not (.isk .istup (.var 2))) (.or (.cmp .ne (.blt .len (.cons (.var 2) .nil)) (.int 2)) (.not (.blt .all (.cons (.comp (.nm 6) (.var 2) .yes (.call 1 (.cons (.var 6) .nil)) [("item", 6)]) .nil))))) (.cons (.raise 1) .nil) .nil) (.cons (.iff (.or (.cmp .lt (.idx (.var 2) (.int 0)) (.int 0)) (.or (.cmp .lt (.idx (.var 2) (.int 1)) (.int 1)) (.cmp .ne (.blt .gcd (.cons (.idx (.var 2) (.int 0)) (.cons (.idx (.var 2) (.int 1)) .nil))) (.int 1)))) (.cons (.raise 1) .nil) .nil) (.cons (.asgT [3, 4, 5] (.tup (.cons (.int 1) (.cons (.int 1) (.cons (.int 0) .nil))))) (.cons (.while_ (.cmp .gt (.bin .mul (.var 3) (.idx (.var 2) (.int 1))) (.bin .mul (.idx (.var 2) (.int 0)) (.var 4))) (.cons (.par [3, 4] (.cons (.bin .mul (.var 3) (.bin .sub (.bin .sub (.var 0) (.var 1)) (.var 5))) (.cons (.bin .mul (.var 4) (.bin .sub (.var 0) (.var 5))) .nil))) (.cons (.asgF 5 (.bin .add (.var 5) (.int 1))) .nil))) (.cons (.ret (.var 5)) .nil))))))⟩
def d6 : Df := ⟨"_law_pick", ["state", "several"], ["state", "several"],
  (.cons (.ret (.idx (.var 1) (.call 0 (.cons (.var 0) (.cons (.blt .len (.cons (.var 1) .nil)) .nil))))) .nil)⟩
def d7 : Df := ⟨"_law_is_whole", ["item"], ["item"],
  (.cons (.ret (.and (.isk .isint (.var 0)) (.not (.isk .isbool (.var 0))))) .nil)⟩
def d8 : Df := ⟨"_law_rc_within", ["value", "many"], ["value", "many"],
  (.cons (.ret (.and (.call 7 (.cons (.var 0) .nil)) (.chain .le .lt (.int 0) (.var 0) (.var 1)))) .nil)⟩
def d9 : Df := ⟨"_law_au_ways", ["claims", "sample"], ["claims", "sample", "found", "turn"],
  (.cons (.iff (.cmp .gt (.var 1) (.var 0)) (.cons (.ret (.int 0)) .nil) .nil) (.cons (.asgF 2 (.int 1)) (.cons (.for_ (.nm 3) (.rng1 (.var 1)) (.cons (.asgF 2 (.bin .fdiv (.bin .mul (.var 2) (.bin .sub (.var 0) (.var 3))) (.bin .add (.var 3) (.int 1)))) .nil)) (.cons (.ret (.var 2)) .nil))))⟩
def d10 : Df := ⟨"_law_au_lowest", ["up", "down"], ["up", "down", "one", "other"],
  (.cons (.par [2, 3] (.cons (.var 0) (.cons (.var 1) .nil))) (.cons (.while_ (.cmp .ne (.var 3) (.int 0)) (.cons (.par [2, 3] (.cons (.var 3) (.cons (.bin .mod (.blt .int (.cons (.var 2) .nil)) (.var 3)) .nil))) .nil)) (.cons (.ret (.tup (.cons (.bin .fdiv (.var 0) (.var 2)) (.cons (.bin .fdiv (.var 1) (.var 2)) .nil)))) .nil)))⟩
def d11 : Df := ⟨"_law_au_lots", ["claims", "most"], ["claims", "most", "turn", "line", "found", "longer", "lot", "claim"],
  (.cons (.par [3, 4] (.cons (.lst (.cons (.tup .nil) .nil)) (.cons (.lst (.cons (.tup .nil) .nil)) .nil))) (.cons (.frz 3) (.cons (.frz 4) (.cons (.for_ (.nm 2) (.rng1 (.blt .min (.cons (.var 1) (.cons (.var 0) .nil)))) (.cons (.asgF 5 (.lst .nil)) (.cons (.for_ (.nm 6) (.var 3) (.cons (.asgF 5 (.bin .add (.var 5) (.comp (.nm 7) (.rng2 (.ite (.cmp .ne (.var 6) (.tup .nil)) (.bin .add (.idx (.var 6) (.neg (.int 1))) (.int 1)) (.int 0)) (.var 0)) .yes (.bin .add (.var 6) (.tup (.cons (.var 7) .nil))) [("claim", 7)]))) .nil)) (.cons (.asgF 3 (.var 5)) (.cons (.asgF 4 (.bin .add (.var 4) (.var 3))) .nil))))) (.cons (.ret (.var 4)) .nil)))))⟩
def d12 : Df := ⟨"_law_sm_chance", ["state", "claims", "wrong"], ["state", "claims", "wrong", "sample", "own", "some", "close", "more", "times"],
  (.cons (.asgF 3 (.call 0 (.cons (.var 0) (.cons (.bin .add (.blt .min (.cons (.var 1) (.cons (.int 30) .nil))) (.int 1)) .nil)))) (.cons (.asgF 4 (.call 10 (.cons (.call 9 (.cons (.bin .sub (.var 1) (.var 2)) (.cons (.var 3) .nil))) (.cons (.call 9 (.cons (.var 1) (.cons (.var 3) .nil))) .nil)))) (.cons (.asgF 5 (.lst (.cons (.tup (.cons (.int 0) (.cons (.int 1) .nil))) (.cons (.tup (.cons (.int 1) (.cons (.int 1) .nil))) (.cons (.tup (.cons (.int 1) (.cons (.int 2) .nil))) (.cons (.tup (.cons (.int 1) (.cons (.int 20) .nil))) (.cons (.tup (.cons (.int 1) (.cons (.bin .pow (.int 10) (.int 17)) .nil))) (.cons (.tup (.cons (.int 7) (.cons (.int 3) .nil))) (.cons (.tup (.cons (.int 2) (.cons (.int 4) .nil))) (.cons (.tup (.cons (.int 0) (.cons (.int 2) .nil))) (.cons (.tup (.cons (.int 1) (.cons (.int 0) .nil))) (.cons (.tup (.cons (.bin .sub (.int 0) (.int 1)) (.cons (.int 2) .nil))) (.cons (.tup (.cons (.int 1) (.cons (.int 2) (.cons (.int 3) .nil)))) (.cons (.tup (.cons (.bl true) (.cons (.int 2) .nil))) .nil)))))))))))))) (.cons (.par [7, 8] (.cons (.call 10 (.cons (.bin .add (.int 1) (.call 0 (.cons (.var 0) (.cons (.int 97) .nil)))) (.cons (.bin .add (.int 1) (.call 0 (.cons (.var 0) (.cons (.int 1009) .nil)))) .nil))) (.cons (.blt .max (.cons (.int 1) (.cons (.bin .fdiv (.bin .pow (.int 10) (.int 17)) (.idx (.var 4) (.int 1))) .nil))) .nil))) (.cons (.asgF 6 (.call 10 (.cons (.blt .max (.cons (.int 0) (.cons (.bin .add (.bin .mul (.idx (.var 4) (.int 0)) (.var 8)) (.call 6 (.cons (.var 0) (.cons (.lst (.cons (.int 1) (.cons (.bin .sub (.int 0) (.int 1)) .nil))) .nil)))) .nil))) (.cons (.bin .mul (.idx (.var 4) (.int 1)) (.var 8)) .nil)))) (.cons (.ret (.call 6 (.cons (.var 0) (.cons (.bin .add (.bin .add (.var 5) (.lst (.cons (.lst (.cons (.int 1) (.cons (.int 2) .nil))) (.cons .non (.cons (.tup (.cons (.int 1) (.cons (.str "2") .nil))) (.cons (.str "12") (.cons (.var 7) (.cons (.var 7) (.cons (.var 7) .nil))))))))) (.bin .mul (.lst (.cons (.var 4) (.cons (.var 6) (.cons (.var 6) .nil)))) (.int 5))) .nil)))) .nil))))))⟩
def d13 : Df := ⟨"_law_sm_is_chance", ["value"], ["value", "item"],
  (.cons (.iff (.or (.not (.isk .istup (.var 0))) (.or (.cmp .ne (.blt .len (.cons (.var 0) .nil)) (.int 2)) (.cmp .ne (.comp (.nm 1) (.var 0) (.not (.call 7 (.cons (.var 1) .nil))) (.int 1) [("item", 1)]) (.lst .nil)))) (.cons (.ret (.bl false)) .nil) .nil) (.cons (.iff (.or (.cmp .lt (.idx (.var 0) (.int 0)) (.int 0)) (.or (.cmp .lt (.idx (.var 0) (.int 1)) (.int 1)) (.cmp .ge (.blt .max (.cons (.var 0) .nil)) (.bin .pow (.int 10) (.int 18))))) (.cons (.ret (.bl false)) .nil) .nil) (.cons (.ret (.cmp .eq (.call 10 (.cons (.idx (.var 0) (.int 0)) (.cons (.idx (.var 0) (.int 1)) .nil))) (.var 0))) .nil)))⟩
def d14 : Df := ⟨"_law_sm_least", ["claims", "wrong", "chance"], ["claims", "wrong", "chance", "caught", "found", "ahead"],
  (.cons (.asgF 3 (.caught 5 (.callK 5 [2, 1, 0] (.cons (.var 2) (.cons (.var 1) (.cons (.var 0) .nil)))))) (.cons (.iff (.or (.not (.call 8 (.cons (.var 0) (.cons (.int 1001) .nil)))) (.cmp .eq (.var 0) (.int 0))) (.cons (.ret (.isx 5 2 (.var 3))) .nil) .nil) (.cons (.iff (.or (.not (.call 8 (.cons (.var 1) (.cons (.bin .add (.var 0) (.int 1)) .nil)))) (.cmp .eq (.var 1) (.int 0))) (.cons (.ret (.isx 5 4 (.var 3))) .nil) .nil) (.cons (.iff (.not (.call 13 (.cons (.var 2) .nil))) (.cons (.ret (.isx 5 1 (.var 3))) .nil) .nil) (.cons (.iff (.cmp .isn (.var 3) .non) (.cons (.ret (.bl false)) .nil) .nil) (.cons (.asgF 4 (.call 5 (.cons (.var 0) (.cons (.var 1) (.cons (.var 2) .nil))))) (.cons (.iff (.not (.call 8 (.cons (.var 4) (.cons (.bin .add (.bin .sub (.var 0) (.var 1)) (.int 2)) .nil)))) (.cons (.ret (.bl false)) .nil) .nil) (.cons (.iff (.cmp .gt (.bin .mul (.call 9 (.cons (.bin .sub (.var 0) (.var 1)) (.cons (.var 4) .nil))) (.idx (.var 2) (.int 1))) (.bin .mul (.idx (.var 2) (.int 0)) (.call 9 (.cons (.var 0) (.cons (.var 4) .nil))))) (.cons (.ret (.bl false)) .nil) .nil) (.cons (.asgF 5 (.ite (.cmp .gt (.var 4) (.int 0)) (.bin .mul (.call 9 (.cons (.bin .sub (.var 0) (.var 1)) (.cons (.bin .sub (.var 4) (.int 1)) .nil))) (.idx (.var 2) (.int 1))) (.int 0))) (.cons (.ret (.or (.cmp .eq (.var 4) (.int 0)) (.cmp .gt (.var 5) (.bin .mul (.idx (.var 2) (.int 0)) (.call 9 (.cons (.var 0) (.cons (.bin .sub (.var 4) (.int 1)) .nil))))))) .nil))))))))))⟩
def d15 : Df := ⟨"_law_sm_missed", ["claims", "wrong", "sample"], ["claims", "wrong", "sample", "caught", "found", "lots", "clear", "lot", "claim"],
  (.cons (.asgF 3 (.caught 5 (.callK 4 [2, 1, 0] (.cons (.var 2) (.cons (.var 1) (.cons (.var 0) .nil)))))) (.cons (.iff (.or (.not (.call 8 (.cons (.var 0) (.cons (.int 61) .nil)))) (.cmp .eq (.var 0) (.int 0))) (.cons (.ret (.isx 5 2 (.var 3))) .nil) .nil) (.cons (.iff (.or (.not (.call 8 (.cons (.var 1) (.cons (.bin .add (.var 0) (.int 1)) .nil)))) (.cmp .eq (.var 1) (.int 0))) (.cons (.ret (.isx 5 4 (.var 3))) .nil) .nil) (.cons (.iff (.not (.call 8 (.cons (.var 2) (.cons (.bin .add (.var 0) (.int 1)) .nil)))) (.cons (.ret (.isx 5 3 (.var 3))) .nil) .nil) (.cons (.iff (.cmp .isn (.var 3) .non) (.cons (.ret (.bl false)) .nil) .nil) (.cons (.asgF 4 (.call 4 (.cons (.var 0) (.cons (.var 1) (.cons (.var 2) .nil))))) (.cons (.iff (.not (.call 13 (.cons (.var 4) .nil))) (.cons (.ret (.bl false)) .nil) .nil) (.cons (.iff (.cmp .lt (.var 0) (.int 8)) (.cons (.asgF 5 (.comp (.nm 7) (.call 11 (.cons (.var 0) (.cons (.var 2) .nil))) (.cmp .eq (.blt .len (.cons (.var 7) .nil)) (.var 2)) (.var 7) [("lot", 7)])) (.cons (.asgF 6 (.comp (.nm 7) (.var 5) (.cmp .eq (.comp (.nm 8) (.var 7) (.cmp .lt (.var 8) (.var 1)) (.int 1) [("claim", 8)]) (.lst .nil)) (.var 7) [("lot", 7)])) (.cons (.ret (.cmp .eq (.bin .mul (.idx (.var 4) (.int 0)) (.blt .len (.cons (.var 5) .nil))) (.bin .mul (.idx (.var 4) (.int 1)) (.blt .len (.cons (.var 6) .nil))))) .nil))) .nil) (.cons (.ret (.cmp .eq (.var 4) (.call 10 (.cons (.call 9 (.cons (.bin .sub (.var 0) (.var 1)) (.cons (.var 2) .nil))) (.cons (.call 9 (.cons (.var 0) (.cons (.var 2) .nil))) .nil))))) .nil)))))))))⟩
def dL : Df := ⟨"law", ["script"], ["script", "state", "turn", "claims", "wrong", "sample", "odd", "one", "other", "third", "chance"],
  (.cons (.for_ (.nm 2) (.rng1 (.int 4)) (.cons (.asgF 3 (.call 6 (.cons (.var 1) (.cons (.lst (.cons (.bin .add (.int 1) (.call 0 (.cons (.var 1) (.cons (.int 7) .nil)))) (.cons (.bin .add (.int 1) (.call 0 (.cons (.var 1) (.cons (.int 60) .nil)))) (.cons (.int 60) (.cons (.bin .add (.int 1) (.call 0 (.cons (.var 1) (.cons (.int 1000) .nil)))) (.cons (.int 1000) .nil)))))) .nil)))) (.cons (.asgF 4 (.bin .add (.int 1) (.call 0 (.cons (.var 1) (.cons (.call 6 (.cons (.var 1) (.cons (.lst (.cons (.int 1) (.cons (.int 3) (.cons (.var 3) (.cons (.var 3) .nil))))) .nil))) .nil))))) (.cons (.asgF 5 (.call 0 (.cons (.var 1) (.cons (.bin .add (.var 3) (.int 1)) .nil)))) (.cons (.asgF 6 (.call 6 (.cons (.var 1) (.cons (.lst (.cons (.int 0) (.cons (.bin .sub (.int 0) (.int 1)) (.cons (.int 61) (.cons (.int 1001) (.cons (.bin .add (.var 3) (.int 1)) (.cons (.bl true) (.cons .non (.cons (.str "1") (.cons (.tup (.cons (.int 1) .nil)) (.cons (.bin .pow (.int 10) (.int 18)) .nil))))))))))) .nil)))) (.cons (.for_ (.tp [7, 8, 9]) (.lst (.cons (.tup (.cons (.var 3) (.cons (.var 4) (.cons (.var 5) .nil)))) (.cons (.tup (.cons (.var 6) (.cons (.var 4) (.cons (.var 6) .nil)))) (.cons (.tup (.cons (.var 3) (.cons (.var 6) (.cons (.var 6) .nil)))) (.cons (.tup (.cons (.var 3) (.cons (.var 4) (.cons (.var 6) .nil)))) .nil))))) (.cons (.iff (.not (.call 15 (.cons (.var 7) (.cons (.var 8) (.cons (.var 9) .nil))))) (.cons (.ret (.bl false)) .nil) .nil) .nil)) (.cons (.iff (.cmp .le (.var 4) (.var 3)) (.cons (.asgF 10 (.call 12 (.cons (.var 1) (.cons (.var 3) (.cons (.var 4) .nil))))) (.cons (.for_ (.tp [7, 8]) (.lst (.cons (.tup (.cons (.var 3) (.cons (.var 4) .nil))) (.cons (.tup (.cons (.var 6) (.cons (.var 6) .nil))) (.cons (.tup (.cons (.var 3) (.cons (.var 6) .nil))) .nil)))) (.cons (.iff (.not (.call 14 (.cons (.var 7) (.cons (.var 8) (.cons (.var 10) .nil))))) (.cons (.ret (.bl false)) .nil) .nil) .nil)) .nil)) .nil) .nil))))))) (.cons (.ret (.bl true)) .nil))⟩
def tab : Tab := [(1, d1), (2, d2), (3, d3), (4, d4), (5, d5), (6, d6), (7, d7), (8, d8), (9, d9), (10, d10), (11, d11), (12, d12), (13, d13), (14, d14), (15, d15)]
def WH : Nat := 2000
end LW
end
section
set_option maxHeartbeats 4000000
namespace LW
open PySem PySem.Spec PyProof.Rows L2 PV
def top (i : Nat) : Stmt := PySem.Challenge.pw_samehowever_k81_samples_that_miss.main.body.getD i (.Pass ⟨0, 0, 0, 0⟩)
abbrev FnP (K : PySem.W.Frag) (x : Str) (st : Stmt) (f : Addr) (fd : FuncData) : Prop := FunD K x x (defArgs st) (defBody st) (defScope st) [] [] f fd

def fns : List (Nat × Str × Nat) := [(0, "_law_draw", 2), (1, "is_whole", 1), (2, "is_number", 3), (3, "need_wrong", 3), (4, "miss_chance", 3), (5, "least_sample", 3), (6, "_law_pick", 2), (7, "_law_is_whole", 1), (8, "_law_rc_within", 2), (9, "_law_au_ways", 2), (10, "_law_au_lowest", 2), (11, "_law_au_lots", 2), (12, "_law_sm_chance", 3), (13, "_law_sm_is_chance", 1), (14, "_law_sm_least", 3), (15, "_law_sm_missed", 3)]
def cons : List (Str × Int) := [("MOST_CLAIMS", 60), ("MOST_SAMPLED", 1000)]
def cls : List (Nat × Str) := [(0, "HoweverError"), (1, "BadChance"), (2, "BadClaims"), (3, "BadSample"), (4, "BadWrong")]
def kws : List (Nat × Str × List Str × List Nat) := [(4, "miss_chance", ["sample", "wrong", "claims"], [2, 1, 0]), (5, "least_sample", ["chance", "wrong", "claims"], [2, 1, 0])]
def mws : List (Nat × Str × Nat × List Str × List Nat) := []
def exs : List (Nat × Str) := [(1, "BadChance"), (2, "BadClaims"), (3, "BadSample"), (4, "BadWrong")]
def nx : Nat := 5
def hasLam : Bool := true
def bfs : List (Str × String) := [("gcd", "math.gcd"), ("comb", "math.comb")]
def ck1 : Ck := ⟨d1.N, fns, cons, cls, kws, mws, bfs, none, nx, exs⟩
def ck2 : Ck := ⟨d2.N, fns, cons, cls, kws, mws, bfs, none, nx, exs⟩
def ck3 : Ck := ⟨d3.N, fns, cons, cls, kws, mws, bfs, none, nx, exs⟩
def ck4 : Ck := ⟨d4.N, fns, cons, cls, kws, mws, bfs, none, nx, exs⟩
def ck5 : Ck := ⟨d5.N, fns, cons, cls, kws, mws, bfs, none, nx, exs⟩
def ck6 : Ck := ⟨d6.N, fns, cons, cls, kws, mws, bfs, none, nx, exs⟩
def ck7 : Ck := ⟨d7.N, fns, cons, cls, kws, mws, bfs, none, nx, exs⟩
def ck8 : Ck := ⟨d8.N, fns, cons, cls, kws, mws, bfs, none, nx, exs⟩
def ck9 : Ck := ⟨d9.N, fns, cons, cls, kws, mws, bfs, none, nx, exs⟩
def ck10 : Ck := ⟨d10.N, fns, cons, cls, kws, mws, bfs, none, nx, exs⟩
def ck11 : Ck := ⟨d11.N, fns, cons, cls, kws, mws, bfs, none, nx, exs⟩
def ck12 : Ck := ⟨d12.N, fns, cons, cls, kws, mws, bfs, none, nx, exs⟩
def ck13 : Ck := ⟨d13.N, fns, cons, cls, kws, mws, bfs, none, nx, exs⟩
def ck14 : Ck := ⟨d14.N, fns, cons, cls, kws, mws, bfs, some (defScope (top 29)), nx, exs⟩
def ck15 : Ck := ⟨d15.N, fns, cons, cls, kws, mws, bfs, some (defScope (top 30)), nx, exs⟩
def ckL : Ck := ⟨dL.N, fns, cons, [], kws, mws, bfs, none, nx, exs⟩
end LW
namespace LW
open PySem PySem.Spec PyProof.Rows L2 PV
section
variable {P : Program} {w : World} {K : PySem.W.Frag} {mg : Str → Option Value} {base : Heap} {f fB : Addr} {fd fdB : FuncData} {s gr ce : Addr}
abbrev NB : List Str := ["state", "turn", "found", "prime", "blend", "cell"]
abbrev sB : Stmt := top 18
theorem scB : FnScope NB ["state"] (defScope sB) := ⟨rfl, rfl, rfl, by decide +kernel, rfl, by decide +kernel, by decide +kernel⟩
theorem ok_blended (F : FnP K "_law_blended" sB f fd) (gI : mg "int" = none) : FnOk P w K mg base CX0 1 f fd ["state"] (spBl s gr ce) := by
  refine F.ok scB (fun vs H Q E h => by obtain ⟨rfl, _⟩ := h; rfl) (fun cdv A outer s0 H vs Q E hr h => ?_)
  have hu := hu_of hr
  refine ⟨_, PSs.nox (pss_cons (ps_par rfl scB.nd (i := 1) (j := 2) rfl rfl (by decide) rfl rfl (pa_cons (pe_op op_add (pe_dget hu (pv 0) pe_str (fun _ _ => rfl)) pe_int) (pa_cons pe_int pa_nil)) (par2_swapped (sc := defScope sB) rfl scB.kind (by decide +kernel)))
    (pss_cons (ps_dput hu (pv 0) pe_str (pv 1) rfl)
    (pss_cons (ps_for PassesOwn.never rfl (pi_list (pe_lst (pa_cons pe_int (pa_cons pe_int (pa_cons pe_int pa_nil))))) (pg_name (i := 3) scB.nd rfl (Or.inl rfl))
       (pss_cons (ps_set (i := 4) scB.nd rfl (Or.inl rfl) (pe_op op_add (pe_op op_mul pe_int (pv 1)) (pe_op op_fdivW (pv 3) pe_int)))
        (pss_cons (ps_for PassesOwn.never rfl (pi_list (pe_dget hu (pv 0) pe_str (fun _ _ => rfl))) (pg_name (i := 5) scB.nd rfl (Or.inl rfl))
            (pss_one (ps_set (i := 4) scB.nd rfl (Or.inl rfl) (pe_op op_mod (pe_callTy call_int1 rfl gI boot_int (pa_cons (pe_op op_add (pe_op op_add (pe_op op_mul (pv 4) pe_int) (pv 5)) (pv 1)) pa_nil)) (pv 3)))))
        (pss_one (ps_set (i := 2) scB.nd rfl (Or.inl rfl) (pe_op op_add (pe_op op_mul (pv 2) pe_int) (pe_op op_mod (pe_callTy call_int1 rfl gI boot_int (pa_cons (pe_op op_powW (pv 4) pe_int) pa_nil)) (pv 3))))))))
    (pss_one (ps_ret (pv 2)))))), ?_⟩
  obtain ⟨rfl, l, t, ns, cs, G, ht, q⟩ := h
  have G1 := G.turn (v := t + 1) (by have := G.t0; omega)
  refine ⟨_, rfl, s, .int t, rfl, dg_turn G, t, 1, rfl, rfl, _, _, rfl, ?_⟩
  refine ⟨_, rfl, _, rfl, s, _, rfl, dp_turn G, ?_⟩
  refine ⟨by show 3 ≤ sizeLine; rw [sizeLine_eq]; omega, fun p hp => ⟨p, rfl, ⟨_, SqL.of upd_same⟩, ?_⟩⟩
  have kp : ∀ a o, upd H s (.dK (stK l (t + 1) gr ce)) a = some o → upd (upd H s (.dK (stK l (t + 1) gr ce))) p (.lst [.int 2147482937, .int 2147482921, .int 2147482877]) a = some o := fun a o e => by
    rw [upd_ne (ne_of_none e hp)]
    exact e
  have G2 := G1.keep kp
  have kq : ∀ a o, H a = some o → a ≠ s → upd (upd H s (.dK (stK l (t + 1) gr ce))) p (.lst [.int 2147482937, .int 2147482921, .int 2147482877]) a = some o := fun a o e n => kp a o (by rw [upd_ne n]; exact e)
  generalize hH2 : upd (upd H s (.dK (stK l (t + 1) gr ce))) p (.lst [.int 2147482937, .int 2147482921, .int 2147482877]) = H2 at *
  refine for_list (xs := [.int 2147482937, .int 2147482921, .int 2147482877]) (fun i σ H' => H2 = H' ∧ ∃ f a3 a4 a5, σ = [some (.ref s), some (.int (t + 1)), some (.int f), a3, a4, a5] ∧ 0 ≤ f) ⟨rfl, 0, _, _, _, rfl, by decide⟩ (fun i σ H' _ pv => ?_) (fun i x σ H' hx pv => ?_) (fun σ H' pv => ?_)
  · obtain ⟨rfl, _⟩ := pv
    rw [← hH2]
    exact SqL.of upd_same
  · obtain ⟨rfl, f, a3, a4, a5, rfl, hf⟩ := pv
    have hx : ∃ pr : Int, x = .int pr ∧ 0 < pr ∧ pr < 2147483648 := by
      match i, hx with
      | 0, h => cases h; exact ⟨_, rfl, by decide, by decide⟩
      | 1, h => cases h; exact ⟨_, rfl, by decide, by decide⟩
      | 2, h => cases h; exact ⟨_, rfl, by decide, by decide⟩
      | n + 3, h => cases h
    obtain ⟨pr, rfl, p0, p1⟩ := hx
    refine ⟨_, rfl, _, _, rfl, rfl, .inl ⟨by decide, by decide⟩, _, rfl, _, _, rfl, rfl, ⟨by decide, by decide⟩, _, _, rfl, rfl, ?_⟩
    refine ⟨_, rfl, s, _, rfl, dg_cells G2, ce, rfl, ⟨_, SqL.of G2.ce⟩, ?_⟩
    have ht0 := G.t0
    have d0 : 0 ≤ pr / 79 := Int.ediv_nonneg (by omega) (by decide)
    have d1 : pr / 79 ≤ pr := Int.ediv_le_self _ (by omega)
    refine for_list (xs := cs.map V.int) (fun j σ H' => H2 = H' ∧ ∃ b a5, σ = [some (.ref s), some (.int (t + 1)), some (.int f), some (.int pr), some (.int b), a5] ∧ 0 ≤ b ∧ b ≤ 40014 * (t + 1) + 2147483648) ⟨rfl, _, _, rfl, by omega, by omega⟩ (fun j σ H' _ pv => ?_) (fun j x σ H' hx pv => ?_) (fun σ H' pv => ?_)
    · obtain ⟨rfl, _⟩ := pv
      exact SqL.of G2.ce
    · obtain ⟨rfl, b, a5, rfl, hb, hb2⟩ := pv
      rw [List.getElem?_map] at hx
      obtain ⟨c, _, rfl⟩ := Option.map_eq_some_iff.mp hx
      refine ⟨_, rfl, _, _, rfl, rfl, .inr ⟨by decide, by decide⟩, _, rfl, _, _, rfl, rfl, _, rfl, _, _, rfl, rfl, .inl ⟨_, rfl, _, rfl, _, _, rfl, rfl, p0, ?_⟩⟩
      have e1 := Int.emod_nonneg (b * 69621 + c + (t + 1)) (Int.ne_of_gt p0)
      have e2 := Int.emod_lt_of_pos (b * 69621 + c + (t + 1)) p0
      exact ⟨rfl, _, _, rfl, e1, by omega⟩
    · obtain ⟨rfl, b, a5, rfl, hb, hb2⟩ := pv
      have hlog := blend_log ht0 ht hb hb2
      refine ⟨_, rfl, _, _, rfl, rfl, .inr ⟨by decide, by decide⟩, _, rfl, _, _, rfl, rfl, ⟨by decide, hlog⟩, .inl ⟨_, rfl, _, rfl, _, _, rfl, rfl, p0, _, _, rfl, rfl, ?_⟩⟩
      have e1 := Int.emod_nonneg (b ^ (5 : Int).toNat) (Int.ne_of_gt p0)
      exact ⟨rfl, _, _, _, _, rfl, by omega⟩
  · obtain ⟨rfl, f, a3, a4, a5, rfl, hf⟩ := pv
    exact ⟨_, rfl, q f _ hf G2.st kq (by rw [← hH2]; exact (NT.refl.upd).upd)⟩

abbrev ND : List Str := ["state", "size_here", "found"]
abbrev sD : Stmt := top 19
theorem scpD : FnScope ND ["state", "size_here"] (defScope sD) := ⟨rfl, rfl, rfl, by decide +kernel, rfl, by decide +kernel, by decide +kernel⟩
theorem ok_draw (F : FnP K "_law_draw" sD f fd) (FB : FnP K "_law_blended" sB fB fdB) (gI : mg "int" = none) (gB : mg "_law_blended" = some (.ref fB)) : FnOk P w K mg base CX0 2 f fd ["state", "size_here"] (spDr s gr ce) := by
  have GB : FnOk P w K mg base CX0 1 fB fdB ["state"] (spBl s gr ce) := ok_blended FB gI
  have bB : Binds K fdB ["state"] [] := FB.bindsN fun _ _ _ _ _ _ us hl => match us, hl with | [_], _ => rfl
  refine F.ok scpD (fun vs H Q E h => by obtain ⟨k, rfl, _⟩ := h; rfl) (fun cdv A outer s0 H vs Q E hr h => ?_)
  have hu := hu_of hr
  refine ⟨_, PSs.nox (pss_cons (ps_if (pt_cmpR op_eq (pe_dget hu (pv 0) pe_str (fun _ _ => rfl)) pe_int (nomark _))
      (pss_one (ps_dput hu (pv 0) pe_str (pe_ifExp (pt_cmpR (op_neD hr.units) (pe_dget hu (pv 0) pe_str (fun _ _ => rfl)) (pe_lst pa_nil) (nomark _))
        (pe_bm PySem.F.plainAttrs_list PySem.F.slot_list_pop PySem.F.type_list_pop mt_popAt (pe_dget hu (pv 0) pe_str (fun _ _ => rfl)) (pa_cons pe_int pa_nil))
        (pe_call GB hr rfl gB FB.kp bB .nil pass0 (pa_cons (pv 0) pa_nil))) rfl)) pss_nil)
    (pss_cons (ps_set (i := 2) scpD.nd rfl (Or.inl rfl) (pe_op op_mod (pe_callTy call_int1 rfl gI boot_int (pa_cons (pe_dget hu (pv 0) pe_str (fun _ _ => rfl)) pa_nil)) (pv 1)))
    (pss_cons (ps_dput hu (pv 0) pe_str (pe_op op_fdivW (pe_dget hu (pv 0) pe_str (fun _ _ => rfl)) (pv 1)) rfl)
    (pss_one (ps_ret (pv 2)))))), ?_⟩
  obtain ⟨k, rfl, k0, k1, ⟨hne, l, t, ns, cs, G⟩, hb, q⟩ := h
  have hL : t.toNat < LIM := bud_pos (by rw [← GoodAt.bud G]; exact hb)
  have fin : ∀ (l' t' : Int) (ns' : List Int) (H1 : Hp), GoodAt s gr ce l' t' ns' cs H1 → (∀ a o, H a = some o → a ≠ s → a ≠ gr → H1 a = some o) → NT H H1 → t ≤ t' → t' ≤ t + 1 → ∀ m : Int, 0 ≤ m → m < k → Q (.int m) (upd H1 s (.dK (stK (l' / k) t' gr ce))) := fun l' t' ns' H1 G1 fr nt h1 h2 m m0 m1 => by
    have G2 := G1.left (v := l' / k) (Int.ediv_nonneg G1.l0 (Int.le_of_lt k0))
    have ht := G.t0
    have hh := bud_step (L := LIM) (a := t.toNat) (b := t'.toNat) (by omega) (by omega)
    exact q m _ m0 m1 ⟨hne, _, _, _, _, G2⟩ (by rw [GoodAt.bud G, GoodAt.bud G2]; exact hh.1) (by rw [GoodAt.bud G, GoodAt.bud G2]; exact hh.2) (fun a o e n1 n2 => by rw [upd_ne n1]; exact fr a o e n1 n2) nt.upd
  refine ⟨_, rfl, s, .int l, rfl, dg_left G, rfl, _, rfl, ?_⟩
  by_cases hl : l = 0
  · subst hl
    refine ite_t (decide_eq_true rfl) ?_
    refine ⟨_, rfl, s, _, rfl, dg_great G, ⟨by show 0 ≤ sizeLine; exact Nat.zero_le _, fun p hp => ?_⟩⟩
    have kp : ∀ a o, H a = some o → upd H p (.lst []) a = some o := fun a o e => by rw [upd_ne (ne_of_none e hp)]; exact e
    have G1 := G.keep kp
    refine ⟨.list (ns.map PyData.int), .list [], .lst (SqL.of G1.gr) (dpI ns), .lst (SqL.of upd_same) .nil, shapedInts ns, shapedInts [], _, rfl, ?_⟩
    have eb : (!PyData.eqv (.list (ns.map PyData.int)) (.list [])) = !decide (ns = []) := by rw [eqv_nil]
    rw [eb]
    cases ns with
    | nil =>
      refine ite_f rfl ?_
      refine ⟨_, rfl, rfl, 0, t, [], cs, G1, hL, fun m H2 m0 e2 fr nt => ?_⟩
      have G2 : GoodAt s gr ce 0 (t + 1) [] cs H2 := ⟨e2, fr _ _ G1.gr G1.sg, fr _ _ G1.ce G1.sc, by decide, by have := G.t0; omega, G.n0, G.c0, G.nl, G.cl⟩
      refine ⟨_, rfl, s, _, rfl, dp_left (v := m) G2, ?_⟩
      have G3 := G2.left (v := m) m0
      exact draw_rest G3 k0 k1 fun m' h0 h1 => fin m (t + 1) [] _ G3 (fun a o e n1 n2 => by rw [upd_ne n1]; exact fr a o (kp a o e) n1) ((NT.trans (NT.refl.upd) nt).upd) (by omega) (by omega) m' h0 h1
    | cons n ns =>
      refine ite_t rfl ?_
      refine ⟨_, rfl, s, _, rfl, dg_great G1, .inl ⟨rfl, _, SqL.of G1.gr⟩, gr, _, 0, 0, .int n, rfl, rfl, G1.gr, by decide, by decide, ?_, rfl, ?_⟩
      · show seqIndex? 0 ((n :: ns).map V.int).length = some 0
        unfold seqIndex?
        simp
      · have n0 : 0 ≤ n := G.n0 n List.mem_cons_self
        have e1 : (((n :: ns).map V.int).eraseIdx 0) = ns.map V.int := rfl
        rw [e1]
        have G2 : GoodAt s gr ce 0 t ns cs (upd (upd H p (.lst [])) gr (.lst (ns.map V.int))) := ⟨by rw [upd_ne G.sg.symm]; exact G1.st, upd_same, by rw [upd_ne hne.symm]; exact G1.ce, by decide, G.t0, fun x hx => G.n0 x (List.mem_cons_of_mem _ hx), G.c0, by have := G.nl; simp at this; omega, G.cl⟩
        refine ⟨_, rfl, s, _, rfl, dp_left (v := n) G2, ?_⟩
        have G3 := G2.left (v := n) n0
        exact draw_rest G3 k0 k1 fun m' h0 h1 => fin n t ns _ G3 (fun a o e n1 n2 => by rw [upd_ne n1, upd_ne n2]; exact kp a o e) (((NT.refl.upd).upd).upd) (by omega) (by omega) m' h0 h1
  · refine ite_f (decide_eq_false fun e => hl (by cases e; rfl)) ?_
    exact draw_rest G k0 k1 fun m' h0 h1 => fin l t ns _ G (fun a o e _ _ => e) NT.refl (by omega) (by omega) m' h0 h1
abbrev sG : Stmt := top 17
theorem scG : FnScope NG ["script"] (defScope sG) := ⟨rfl, rfl, rfl, by decide +kernel, rfl, by decide +kernel, by decide +kernel⟩
def eCells : Expr := match (defBody sG).getD 1 (.Pass ⟨0, 0, 0, 0⟩) with
  | .Return (some (.Dict _ vs _)) _ => vs.getD 1 (.Constant .none 0 ⟨0, 0, 0, 0⟩)
  | _ => .Constant .none 0 ⟨0, 0, 0, 0⟩
theorem ok_begun (F : FnP K "_law_begun" sG f fd) (free : ∀ x ∈ freeNames, mg x = none) : FnOk P w K mg base CX0 1 f fd ["script"] (spBg K) := by
  refine F.ok scG (fun vs H Q E h => by obtain ⟨a, ns, rfl, _⟩ := h; rfl) (fun cdv A outer s0 H vs Q E hr h => ?_)
  obtain ⟨a, ns, rfl, hS, hl, q⟩ := h
  have fa : Facts (g0 P w K mg base H) ckG (fun _ _ => .bad) 0 := ⟨by decide +kernel, fun _ _ _ h => by simp [ckG] at h, fun _ _ _ _ h => by simp [ckG] at h, fun _ _ _ _ _ h => by simp [ckG] at h, fun _ _ h => by simp [ckG] at h, fun _ _ h => by simp [ckG] at h, free, fun h => absurd rfl h, fun _ _ h => by simp [ckG] at h⟩
  have c : CtxD (g0 P w K mg base H) ckG (defScope sG) (fun _ _ => False) 0 (cxOf CX0 P w K mg base NG "_law_begun" (defScope sG) f cdv A outer s0 H E).nox :=
    ⟨⟨rfl, rfl, rfl, rfl, rfl, rfl, (fun e => by cases e), rfl, rfl, hr, takes0.imp fun _ _ _ _ ⟨_, _, _, h⟩ => h.elim⟩, scG.kind, PassesOwn.never, fun _ => rfl, fun _ _ h => by simp [ckG] at h⟩
  obtain ⟨t1, p1, m1⟩ := (soundS (wh := 0) (Z0 := noT H) (H0 := H) c fa (.asg 1 xGreat)).S ((defBody sG).getD 0 (.Pass ⟨0, 0, 0, 0⟩)) (by decide +kernel)
  obtain ⟨t2, p2, m2⟩ := (sound fa xCells).E _ _ _ eCells c.ok (by decide +kernel)
  refine ⟨_, PSs.nox (pss_cons p1 (pss_one (ps_ret (pe_disp (pps_cons pe_str (pv 1) (pps_cons pe_str p2 (pps_cons pe_str pe_int (pps_cons pe_str pe_int pps_nil)))) rfl rfl (fun e => by cases e) (by decide))))), ?_⟩
  have pre : Pre (g0 P w K mg base H) (noT H) H := ⟨fun _ _ e => dropT_sub e, fun _ ⟨ps, e⟩ => noT_none e, fun _ _ e => e, fun _ _ e => e⟩
  have r0 : Reps (g0 P w K mg base H) (noT H) [.ref a] [.scr ns] := .cons (.scr (noT_sq hS) hl) .nil
  have sc0 := start_cfg (N := NG) pre r0 (show 1 ≤ 3 by decide)
  have ea : ex (fun _ _ => .bad) 0 (.asg 1 xGreat) (startE NG [.scr ns]) = .ret (.nx [.val (.scr ns), .own ((greatL ns).map D.int), .un]) := by
    show (ev (fun _ _ => .bad) xGreat [.val (.scr ns), .un, .un] >>= _) = _
    rw [ev_great]
    rfl
  refine m1 _ (noT H) _ H _ sc0 ?_
  rw [ea]
  intro Z1 σ1 H1 c1 _ _
  obtain ⟨gr, vs, q1, q2, q3, q4, q5, q6⟩ := get_own (i := 1) c1.cfg rfl
  have e1 := q6.intsI (intsD_map _)
  subst e1
  have h1k : ∀ b o, H b = some o → H1 b = some o := fun b o e => by
    by_cases q : ∃ ps, H b = some (.tbl ps)
    · obtain ⟨ps, q⟩ := q
      have z := c1.stp.good.1 b ps q
      rw [e] at q
      cases q
      exact z
    · exact c1.stp.h b o e q
  have nb : ∀ b, H1 b = none → H b = none := fun b e => by
    rcases none_or (H := H) (a := b) with z | ⟨u, z⟩
    · exact z
    · rw [h1k _ _ z] at e; cases e
  intro p hp
  refine ⟨_, q1, m2 _ Z1 σ1 _ _ (c1.cfg.step (.newH c1.cfg.pre hp fun _ z => by cases z)) ?_⟩
  rw [ev_cells]
  intro v Z2 H2 s2 _ r2
  obtain ⟨ce, ws, rfl, h1, h2, h3, h4, h5, h6⟩ := r2
  have e2 := h6.intsI (intsD_map _)
  subst e2
  have hpc : ce ≠ p := fun e => by rw [e, upd_same] at h5; cases h5
  rw [upd_ne hpc] at h5
  have hgc : gr ≠ ce := fun e => by rw [e, h5] at q2; cases q2
  have hgp : gr ≠ p := fun e => by rw [e, hp] at q2; cases q2
  have up : ∀ b o, H1 b = some o → H2 b = some o := fun b o e => by
    by_cases q : ∃ ps, H b = some (.tbl ps)
    · obtain ⟨ps, q⟩ := q
      have z := s2.good.1 b ps q
      rw [h1k _ _ q] at e
      cases e
      exact z
    · exact s2.h b o (by rw [upd_ne (ne_of_none e hp)]; exact e) q
  have nFp : ¬ ∃ ps, H p = some (.tbl ps) := fun ⟨ps, q⟩ => by rw [h1k _ _ q] at hp; cases hp
  refine ⟨s2.h p _ upd_same nFp, stK 0 0 gr ce, rfl, (show 4 ≤ 15 by decide), ?_⟩
  rw [merge_st]
  refine q p gr ce _ hgc ⟨upd_same, by rw [upd_ne hgp]; exact up _ _ q2, by rw [upd_ne hpc]; exact h1, Int.le_refl _, Int.le_refl _, great_nn, cells_nn, Nat.le_trans (great_len ns) hl, by rw [cells_len]; exact hl⟩ (nb p hp) (c1.own0 1 _ gr rfl q1) (nb ce h5) (fun b o e => ?_) (NT.upd fun b ps e => s2.good.2 b ps e)
  have e3 := h1k b o e
  rw [upd_ne (ne_of_none e3 hp)]
  exact up b o e3
end
end LW
namespace LW
open PySem PySem.Spec PyProof.Rows L2 PV
theorem sc1 : FnScope d1.N d1.ps (defScope (top 2)) := ⟨rfl, rfl, rfl, by decide +kernel, rfl, by decide +kernel, by decide +kernel⟩
theorem bd1 {K : PySem.W.Frag} {f : Addr} {fd : FuncData} (F : FnP K "is_whole" (top 2) f fd) : Binds K fd d1.ps [] := F.bindsN fun _ _ _ _ _ _ us hl => match us, hl with | [_], _ => rfl
theorem ch1 : chkB ck1 d1.body (defScope (top 2)) (defBody (top 2)) = true := by decide +kernel
theorem sc2 : FnScope d2.N d2.ps (defScope (top 3)) := ⟨rfl, rfl, rfl, by decide +kernel, rfl, by decide +kernel, by decide +kernel⟩
theorem bd2 {K : PySem.W.Frag} {f : Addr} {fd : FuncData} (F : FnP K "is_number" (top 3) f fd) : Binds K fd d2.ps [] := F.bindsN fun _ _ _ _ _ _ us hl => match us, hl with | [_, _, _], _ => rfl
theorem ch2 : chkB ck2 d2.body (defScope (top 3)) (defBody (top 3)) = true := by decide +kernel
theorem sc3 : FnScope d3.N d3.ps (defScope (top 13)) := ⟨rfl, rfl, rfl, by decide +kernel, rfl, by decide +kernel, by decide +kernel⟩
theorem bd3 {K : PySem.W.Frag} {f : Addr} {fd : FuncData} (F : FnP K "need_wrong" (top 13) f fd) : Binds K fd d3.ps [] := F.bindsN fun _ _ _ _ _ _ us hl => match us, hl with | [_, _, _], _ => rfl
theorem ch3 : chkB ck3 d3.body (defScope (top 13)) (defBody (top 13)) = true := by decide +kernel
theorem sc4 : FnScope d4.N d4.ps (defScope (top 14)) := ⟨rfl, rfl, rfl, by decide +kernel, rfl, by decide +kernel, by decide +kernel⟩
theorem bd4 {K : PySem.W.Frag} {f : Addr} {fd : FuncData} (F : FnP K "miss_chance" (top 14) f fd) : Binds K fd d4.ps [] := F.bindsN fun _ _ _ _ _ _ us hl => match us, hl with | [_, _, _], _ => rfl
theorem ch4 : chkB ck4 d4.body (defScope (top 14)) (defBody (top 14)) = true := by decide +kernel
theorem sc5 : FnScope d5.N d5.ps (defScope (top 15)) := ⟨rfl, rfl, rfl, by decide +kernel, rfl, by decide +kernel, by decide +kernel⟩
theorem bd5 {K : PySem.W.Frag} {f : Addr} {fd : FuncData} (F : FnP K "least_sample" (top 15) f fd) : Binds K fd d5.ps [] := F.bindsN fun _ _ _ _ _ _ us hl => match us, hl with | [_, _, _], _ => rfl
theorem ch5 : chkB ck5 d5.body (defScope (top 15)) (defBody (top 15)) = true := by decide +kernel
theorem sc6 : FnScope d6.N d6.ps (defScope (top 20)) := ⟨rfl, rfl, rfl, by decide +kernel, rfl, by decide +kernel, by decide +kernel⟩
theorem bd6 {K : PySem.W.Frag} {f : Addr} {fd : FuncData} (F : FnP K "_law_pick" (top 20) f fd) : Binds K fd d6.ps [] := F.bindsN fun _ _ _ _ _ _ us hl => match us, hl with | [_, _], _ => rfl
theorem ch6 : chkB ck6 d6.body (defScope (top 20)) (defBody (top 20)) = true := by decide +kernel
theorem sc7 : FnScope d7.N d7.ps (defScope (top 22)) := ⟨rfl, rfl, rfl, by decide +kernel, rfl, by decide +kernel, by decide +kernel⟩
theorem bd7 {K : PySem.W.Frag} {f : Addr} {fd : FuncData} (F : FnP K "_law_is_whole" (top 22) f fd) : Binds K fd d7.ps [] := F.bindsN fun _ _ _ _ _ _ us hl => match us, hl with | [_], _ => rfl
theorem ch7 : chkB ck7 d7.body (defScope (top 22)) (defBody (top 22)) = true := by decide +kernel
theorem sc8 : FnScope d8.N d8.ps (defScope (top 23)) := ⟨rfl, rfl, rfl, by decide +kernel, rfl, by decide +kernel, by decide +kernel⟩
theorem bd8 {K : PySem.W.Frag} {f : Addr} {fd : FuncData} (F : FnP K "_law_rc_within" (top 23) f fd) : Binds K fd d8.ps [] := F.bindsN fun _ _ _ _ _ _ us hl => match us, hl with | [_, _], _ => rfl
theorem ch8 : chkB ck8 d8.body (defScope (top 23)) (defBody (top 23)) = true := by decide +kernel
theorem sc9 : FnScope d9.N d9.ps (defScope (top 24)) := ⟨rfl, rfl, rfl, by decide +kernel, rfl, by decide +kernel, by decide +kernel⟩
theorem bd9 {K : PySem.W.Frag} {f : Addr} {fd : FuncData} (F : FnP K "_law_au_ways" (top 24) f fd) : Binds K fd d9.ps [] := F.bindsN fun _ _ _ _ _ _ us hl => match us, hl with | [_, _], _ => rfl
theorem ch9 : chkB ck9 d9.body (defScope (top 24)) (defBody (top 24)) = true := by decide +kernel
theorem sc10 : FnScope d10.N d10.ps (defScope (top 25)) := ⟨rfl, rfl, rfl, by decide +kernel, rfl, by decide +kernel, by decide +kernel⟩
theorem bd10 {K : PySem.W.Frag} {f : Addr} {fd : FuncData} (F : FnP K "_law_au_lowest" (top 25) f fd) : Binds K fd d10.ps [] := F.bindsN fun _ _ _ _ _ _ us hl => match us, hl with | [_, _], _ => rfl
theorem ch10 : chkB ck10 d10.body (defScope (top 25)) (defBody (top 25)) = true := by decide +kernel
theorem sc11 : FnScope d11.N d11.ps (defScope (top 26)) := ⟨rfl, rfl, rfl, by decide +kernel, rfl, by decide +kernel, by decide +kernel⟩
theorem bd11 {K : PySem.W.Frag} {f : Addr} {fd : FuncData} (F : FnP K "_law_au_lots" (top 26) f fd) : Binds K fd d11.ps [] := F.bindsN fun _ _ _ _ _ _ us hl => match us, hl with | [_, _], _ => rfl
theorem ch11 : chkB ck11 d11.body (defScope (top 26)) (defBody (top 26)) = true := by decide +kernel
theorem sc12 : FnScope d12.N d12.ps (defScope (top 27)) := ⟨rfl, rfl, rfl, by decide +kernel, rfl, by decide +kernel, by decide +kernel⟩
theorem bd12 {K : PySem.W.Frag} {f : Addr} {fd : FuncData} (F : FnP K "_law_sm_chance" (top 27) f fd) : Binds K fd d12.ps [] := F.bindsN fun _ _ _ _ _ _ us hl => match us, hl with | [_, _, _], _ => rfl
theorem ch12 : chkB ck12 d12.body (defScope (top 27)) (defBody (top 27)) = true := by decide +kernel
theorem sc13 : FnScope d13.N d13.ps (defScope (top 28)) := ⟨rfl, rfl, rfl, by decide +kernel, rfl, by decide +kernel, by decide +kernel⟩
theorem bd13 {K : PySem.W.Frag} {f : Addr} {fd : FuncData} (F : FnP K "_law_sm_is_chance" (top 28) f fd) : Binds K fd d13.ps [] := F.bindsN fun _ _ _ _ _ _ us hl => match us, hl with | [_], _ => rfl
theorem ch13 : chkB ck13 d13.body (defScope (top 28)) (defBody (top 28)) = true := by decide +kernel
theorem sc14 : FnScope d14.N d14.ps (defScope (top 29)) := ⟨rfl, rfl, rfl, by decide +kernel, rfl, by decide +kernel, by decide +kernel⟩
theorem bd14 {K : PySem.W.Frag} {f : Addr} {fd : FuncData} (F : FnP K "_law_sm_least" (top 29) f fd) : Binds K fd d14.ps [] := F.bindsN fun _ _ _ _ _ _ us hl => match us, hl with | [_, _, _], _ => rfl
theorem ch14 : chkB ck14 d14.body (defScope (top 29)) (defBody (top 29)) = true := by decide +kernel
theorem sc15 : FnScope d15.N d15.ps (defScope (top 30)) := ⟨rfl, rfl, rfl, by decide +kernel, rfl, by decide +kernel, by decide +kernel⟩
theorem bd15 {K : PySem.W.Frag} {f : Addr} {fd : FuncData} (F : FnP K "_law_sm_missed" (top 30) f fd) : Binds K fd d15.ps [] := F.bindsN fun _ _ _ _ _ _ us hl => match us, hl with | [_, _, _], _ => rfl
theorem ch15 : chkB ck15 d15.body (defScope (top 30)) (defBody (top 30)) = true := by decide +kernel
theorem scL : FnScope dL.N dL.ps (defScope (top 31)) := ⟨rfl, rfl, rfl, by decide +kernel, rfl, by decide +kernel, by decide +kernel⟩
theorem chL : chkB ckL dL.body (defScope (top 31)) ((defBody (top 31)).drop 1) = true := by decide +kernel
structure Base (g : G) : Prop where
  f1 : ∃ (f : Addr) (fd : FuncData), FnP g.K "is_whole" (top 2) f fd ∧ g.mg "is_whole" = some (.ref f)
  f2 : ∃ (f : Addr) (fd : FuncData), FnP g.K "is_number" (top 3) f fd ∧ g.mg "is_number" = some (.ref f)
  f3 : ∃ (f : Addr) (fd : FuncData), FnP g.K "need_wrong" (top 13) f fd ∧ g.mg "need_wrong" = some (.ref f)
  f4 : ∃ (f : Addr) (fd : FuncData), FnP g.K "miss_chance" (top 14) f fd ∧ g.mg "miss_chance" = some (.ref f)
  f5 : ∃ (f : Addr) (fd : FuncData), FnP g.K "least_sample" (top 15) f fd ∧ g.mg "least_sample" = some (.ref f)
  f6 : ∃ (f : Addr) (fd : FuncData), FnP g.K "_law_pick" (top 20) f fd ∧ g.mg "_law_pick" = some (.ref f)
  f7 : ∃ (f : Addr) (fd : FuncData), FnP g.K "_law_is_whole" (top 22) f fd ∧ g.mg "_law_is_whole" = some (.ref f)
  f8 : ∃ (f : Addr) (fd : FuncData), FnP g.K "_law_rc_within" (top 23) f fd ∧ g.mg "_law_rc_within" = some (.ref f)
  f9 : ∃ (f : Addr) (fd : FuncData), FnP g.K "_law_au_ways" (top 24) f fd ∧ g.mg "_law_au_ways" = some (.ref f)
  f10 : ∃ (f : Addr) (fd : FuncData), FnP g.K "_law_au_lowest" (top 25) f fd ∧ g.mg "_law_au_lowest" = some (.ref f)
  f11 : ∃ (f : Addr) (fd : FuncData), FnP g.K "_law_au_lots" (top 26) f fd ∧ g.mg "_law_au_lots" = some (.ref f)
  f12 : ∃ (f : Addr) (fd : FuncData), FnP g.K "_law_sm_chance" (top 27) f fd ∧ g.mg "_law_sm_chance" = some (.ref f)
  f13 : ∃ (f : Addr) (fd : FuncData), FnP g.K "_law_sm_is_chance" (top 28) f fd ∧ g.mg "_law_sm_is_chance" = some (.ref f)
  f14 : ∃ (f : Addr) (fd : FuncData), FnP g.K "_law_sm_least" (top 29) f fd ∧ g.mg "_law_sm_least" = some (.ref f) ∧ LamD g "_law_sm_least" fd
  f15 : ∃ (f : Addr) (fd : FuncData), FnP g.K "_law_sm_missed" (top 30) f fd ∧ g.mg "_law_sm_missed" = some (.ref f) ∧ LamD g "_law_sm_missed" fd
  free : ∀ x ∈ freeNames, g.mg x = none
  con : ∀ x i, (x, i) ∈ cons → ∃ t, g.mg x = some (.int i t)
  bf : ∀ x id, (x, id) ∈ bfs → g.mg x = some (.builtin id)
  cls : ∀ k x, (k, x) ∈ LW.cls → ClsE g k x
  cau : hasLam = true → CauF g nx
  exs : ∀ k x, (k, x) ∈ LW.exs → ExsF g nx k x
  dr : ∀ n N, n ≠ 0 → 2 ≤ N → FnE g (callF tab WH (n + 1)) N 0 "_law_draw" 2
  dm : ∃ (f : Addr) (fd : FuncData), g.mg "_law_draw" = some (.ref f) ∧ PySem.W.keepIn g.K (.ref f) = true ∧ Binds g.K fd ["state", "size_here"] []
structure At (g : G) (n : Nat) : Prop where
  fn : ∀ k x m, (k, x, m) ∈ fns → FnE g (callF tab WH n) (3 * n) k x m
  kw : ∀ k x ks perm, (k, x, ks, perm) ∈ kws → FnK g (callF tab WH n) (3 * n) k x ks perm ∧ perm.length = ks.length
  mw : ∀ k x m ks perm, (k, x, m, ks, perm) ∈ mws → FnM g (callF tab WH n) (3 * n) k x m ks perm ∧ perm.length = m + ks.length
theorem facts {g : G} (B : Base g) {n : Nat} (A : At g n) {ck : Ck} (nd : ck.N.Nodup) (h1 : ck.fns = fns) (h2 : ck.cons = cons) (h3 : ck.kws = kws) (h4 : ck.mws = mws) (h5 : ck.bfs = bfs) (h6 : ck.nx = nx) (h7 : ck.exs = exs) (h8 : ck.lam ≠ none → hasLam = true) : Facts g ck (callF tab WH n) (3 * n) :=
  ⟨nd, fun k x m h => A.fn k x m (by rw [← h1]; exact h), fun k x ks pm h => A.kw k x ks pm (by rw [← h3]; exact h), fun k x m ks pm h => A.mw k x m ks pm (by rw [← h4]; exact h), fun x id h => B.bf x id (by rw [← h5]; exact h), fun x i h => B.con x i (by rw [← h2]; exact h), B.free, fun h => by rw [h6]; exact B.cau (h8 h), fun k x h => by rw [h6]; exact B.exs k x (by rw [← h7]; exact h)⟩
/-- what a def is known for -/
def Ok (g : G) (n k : Nat) (x : Str) (f : Addr) (fd : FuncData) (ps : List Str) : Prop := FnOk g.P g.w g.K g.mg g.base (L2.CX g.P g.w) (3 * n) f fd ps (spD g (callF tab WH n) k)
theorem ok_zero {g : G} {k : Nat} {x : Str} {f : Addr} {fd : FuncData} {ps : List Str} : Ok g 0 k x f fd ps :=
  ⟨fun _ _ _ _ ⟨_, _, _, _, a⟩ => a.elim, fun _ _ _ _ _ _ _ _ _ _ _ _ _ ⟨_, _, _, _, a⟩ => a.elim⟩
theorem ok1 {g : G} (B : Base g) {n : Nat} (A : At g n) {f : Addr} {fd : FuncData} (F : FnP g.K "is_whole" (top 2) f fd) : Ok g (n + 1) 1 "is_whole" f fd d1.ps := fn_sound (d := d1) (m := n) (n := 3 * n) (k := 0) F sc1 rfl (facts B A sc1.nd rfl rfl rfl rfl rfl rfl rfl (fun h => absurd rfl h)) (fun h => (by cases h)) B.cls ch1 rfl
theorem ok2 {g : G} (B : Base g) {n : Nat} (A : At g n) {f : Addr} {fd : FuncData} (F : FnP g.K "is_number" (top 3) f fd) : Ok g (n + 1) 2 "is_number" f fd d2.ps := fn_sound (d := d2) (m := n) (n := 3 * n) (k := 1) F sc2 rfl (facts B A sc2.nd rfl rfl rfl rfl rfl rfl rfl (fun h => absurd rfl h)) (fun h => (by cases h)) B.cls ch2 rfl
theorem ok3 {g : G} (B : Base g) {n : Nat} (A : At g n) {f : Addr} {fd : FuncData} (F : FnP g.K "need_wrong" (top 13) f fd) : Ok g (n + 1) 3 "need_wrong" f fd d3.ps := fn_sound (d := d3) (m := n) (n := 3 * n) (k := 2) F sc3 rfl (facts B A sc3.nd rfl rfl rfl rfl rfl rfl rfl (fun h => absurd rfl h)) (fun h => (by cases h)) B.cls ch3 rfl
theorem ok4 {g : G} (B : Base g) {n : Nat} (A : At g n) {f : Addr} {fd : FuncData} (F : FnP g.K "miss_chance" (top 14) f fd) : Ok g (n + 1) 4 "miss_chance" f fd d4.ps := fn_sound (d := d4) (m := n) (n := 3 * n) (k := 3) F sc4 rfl (facts B A sc4.nd rfl rfl rfl rfl rfl rfl rfl (fun h => absurd rfl h)) (fun h => (by cases h)) B.cls ch4 rfl
theorem ok5 {g : G} (B : Base g) {n : Nat} (A : At g n) {f : Addr} {fd : FuncData} (F : FnP g.K "least_sample" (top 15) f fd) : Ok g (n + 1) 5 "least_sample" f fd d5.ps := fn_sound (d := d5) (m := n) (n := 3 * n) (k := 4) F sc5 rfl (facts B A sc5.nd rfl rfl rfl rfl rfl rfl rfl (fun h => absurd rfl h)) (fun h => (by cases h)) B.cls ch5 rfl
theorem ok6 {g : G} (B : Base g) {n : Nat} (A : At g n) {f : Addr} {fd : FuncData} (F : FnP g.K "_law_pick" (top 20) f fd) : Ok g (n + 1) 6 "_law_pick" f fd d6.ps := fn_sound (d := d6) (m := n) (n := 3 * n) (k := 5) F sc6 rfl (facts B A sc6.nd rfl rfl rfl rfl rfl rfl rfl (fun h => absurd rfl h)) (fun h => (by cases h)) B.cls ch6 rfl
theorem ok7 {g : G} (B : Base g) {n : Nat} (A : At g n) {f : Addr} {fd : FuncData} (F : FnP g.K "_law_is_whole" (top 22) f fd) : Ok g (n + 1) 7 "_law_is_whole" f fd d7.ps := fn_sound (d := d7) (m := n) (n := 3 * n) (k := 6) F sc7 rfl (facts B A sc7.nd rfl rfl rfl rfl rfl rfl rfl (fun h => absurd rfl h)) (fun h => (by cases h)) B.cls ch7 rfl
theorem ok8 {g : G} (B : Base g) {n : Nat} (A : At g n) {f : Addr} {fd : FuncData} (F : FnP g.K "_law_rc_within" (top 23) f fd) : Ok g (n + 1) 8 "_law_rc_within" f fd d8.ps := fn_sound (d := d8) (m := n) (n := 3 * n) (k := 7) F sc8 rfl (facts B A sc8.nd rfl rfl rfl rfl rfl rfl rfl (fun h => absurd rfl h)) (fun h => (by cases h)) B.cls ch8 rfl
theorem ok9 {g : G} (B : Base g) {n : Nat} (A : At g n) {f : Addr} {fd : FuncData} (F : FnP g.K "_law_au_ways" (top 24) f fd) : Ok g (n + 1) 9 "_law_au_ways" f fd d9.ps := fn_sound (d := d9) (m := n) (n := 3 * n) (k := 8) F sc9 rfl (facts B A sc9.nd rfl rfl rfl rfl rfl rfl rfl (fun h => absurd rfl h)) (fun h => (by cases h)) B.cls ch9 rfl
theorem ok10 {g : G} (B : Base g) {n : Nat} (A : At g n) {f : Addr} {fd : FuncData} (F : FnP g.K "_law_au_lowest" (top 25) f fd) : Ok g (n + 1) 10 "_law_au_lowest" f fd d10.ps := fn_sound (d := d10) (m := n) (n := 3 * n) (k := 9) F sc10 rfl (facts B A sc10.nd rfl rfl rfl rfl rfl rfl rfl (fun h => absurd rfl h)) (fun h => (by cases h)) B.cls ch10 rfl
theorem ok11 {g : G} (B : Base g) {n : Nat} (A : At g n) {f : Addr} {fd : FuncData} (F : FnP g.K "_law_au_lots" (top 26) f fd) : Ok g (n + 1) 11 "_law_au_lots" f fd d11.ps := fn_sound (d := d11) (m := n) (n := 3 * n) (k := 10) F sc11 rfl (facts B A sc11.nd rfl rfl rfl rfl rfl rfl rfl (fun h => absurd rfl h)) (fun h => (by cases h)) B.cls ch11 rfl
theorem ok12 {g : G} (B : Base g) {n : Nat} (A : At g n) {f : Addr} {fd : FuncData} (F : FnP g.K "_law_sm_chance" (top 27) f fd) : Ok g (n + 1) 12 "_law_sm_chance" f fd d12.ps := fn_sound (d := d12) (m := n) (n := 3 * n) (k := 11) F sc12 rfl (facts B A sc12.nd rfl rfl rfl rfl rfl rfl rfl (fun h => absurd rfl h)) (fun h => (by cases h)) B.cls ch12 rfl
theorem ok13 {g : G} (B : Base g) {n : Nat} (A : At g n) {f : Addr} {fd : FuncData} (F : FnP g.K "_law_sm_is_chance" (top 28) f fd) : Ok g (n + 1) 13 "_law_sm_is_chance" f fd d13.ps := fn_sound (d := d13) (m := n) (n := 3 * n) (k := 12) F sc13 rfl (facts B A sc13.nd rfl rfl rfl rfl rfl rfl rfl (fun h => absurd rfl h)) (fun h => (by cases h)) B.cls ch13 rfl
theorem ok14 {g : G} (B : Base g) {n : Nat} (A : At g n) {f : Addr} {fd : FuncData} (F : FnP g.K "_law_sm_least" (top 29) f fd) (lm : LamD g "_law_sm_least" fd) : Ok g (n + 1) 14 "_law_sm_least" f fd d14.ps := fn_sound (d := d14) (m := n) (n := 3 * n) (k := 13) F sc14 rfl (facts B A sc14.nd rfl rfl rfl rfl rfl rfl rfl (fun _ => rfl)) (fun h => lm) B.cls ch14 rfl
theorem ok15 {g : G} (B : Base g) {n : Nat} (A : At g n) {f : Addr} {fd : FuncData} (F : FnP g.K "_law_sm_missed" (top 30) f fd) (lm : LamD g "_law_sm_missed" fd) : Ok g (n + 1) 15 "_law_sm_missed" f fd d15.ps := fn_sound (d := d15) (m := n) (n := 3 * n) (k := 14) F sc15 rfl (facts B A sc15.nd rfl rfl rfl rfl rfl rfl rfl (fun _ => rfl)) (fun h => lm) B.cls ch15 rfl
theorem at_ {g : G} (B : Base g) : ∀ n, At g n
  | n => by
    have ih : n = 0 ∨ ∃ m, n = m + 1 ∧ At g m := by
      cases n with
      | zero => exact .inl rfl
      | succ m => exact .inr ⟨m, rfl, at_ B m⟩
    obtain ⟨f1, fd1, F1, g1⟩ := B.f1
    have o1 : Ok g n 1 "is_whole" f1 fd1 d1.ps := by
      rcases ih with rfl | ⟨m, rfl, A⟩
      · exact ok_zero
      · exact ok1 B A F1
    obtain ⟨f2, fd2, F2, g2⟩ := B.f2
    have o2 : Ok g n 2 "is_number" f2 fd2 d2.ps := by
      rcases ih with rfl | ⟨m, rfl, A⟩
      · exact ok_zero
      · exact ok2 B A F2
    obtain ⟨f3, fd3, F3, g3⟩ := B.f3
    have o3 : Ok g n 3 "need_wrong" f3 fd3 d3.ps := by
      rcases ih with rfl | ⟨m, rfl, A⟩
      · exact ok_zero
      · exact ok3 B A F3
    obtain ⟨f4, fd4, F4, g4⟩ := B.f4
    have o4 : Ok g n 4 "miss_chance" f4 fd4 d4.ps := by
      rcases ih with rfl | ⟨m, rfl, A⟩
      · exact ok_zero
      · exact ok4 B A F4
    obtain ⟨f5, fd5, F5, g5⟩ := B.f5
    have o5 : Ok g n 5 "least_sample" f5 fd5 d5.ps := by
      rcases ih with rfl | ⟨m, rfl, A⟩
      · exact ok_zero
      · exact ok5 B A F5
    obtain ⟨f6, fd6, F6, g6⟩ := B.f6
    have o6 : Ok g n 6 "_law_pick" f6 fd6 d6.ps := by
      rcases ih with rfl | ⟨m, rfl, A⟩
      · exact ok_zero
      · exact ok6 B A F6
    obtain ⟨f7, fd7, F7, g7⟩ := B.f7
    have o7 : Ok g n 7 "_law_is_whole" f7 fd7 d7.ps := by
      rcases ih with rfl | ⟨m, rfl, A⟩
      · exact ok_zero
      · exact ok7 B A F7
    obtain ⟨f8, fd8, F8, g8⟩ := B.f8
    have o8 : Ok g n 8 "_law_rc_within" f8 fd8 d8.ps := by
      rcases ih with rfl | ⟨m, rfl, A⟩
      · exact ok_zero
      · exact ok8 B A F8
    obtain ⟨f9, fd9, F9, g9⟩ := B.f9
    have o9 : Ok g n 9 "_law_au_ways" f9 fd9 d9.ps := by
      rcases ih with rfl | ⟨m, rfl, A⟩
      · exact ok_zero
      · exact ok9 B A F9
    obtain ⟨f10, fd10, F10, g10⟩ := B.f10
    have o10 : Ok g n 10 "_law_au_lowest" f10 fd10 d10.ps := by
      rcases ih with rfl | ⟨m, rfl, A⟩
      · exact ok_zero
      · exact ok10 B A F10
    obtain ⟨f11, fd11, F11, g11⟩ := B.f11
    have o11 : Ok g n 11 "_law_au_lots" f11 fd11 d11.ps := by
      rcases ih with rfl | ⟨m, rfl, A⟩
      · exact ok_zero
      · exact ok11 B A F11
    obtain ⟨f12, fd12, F12, g12⟩ := B.f12
    have o12 : Ok g n 12 "_law_sm_chance" f12 fd12 d12.ps := by
      rcases ih with rfl | ⟨m, rfl, A⟩
      · exact ok_zero
      · exact ok12 B A F12
    obtain ⟨f13, fd13, F13, g13⟩ := B.f13
    have o13 : Ok g n 13 "_law_sm_is_chance" f13 fd13 d13.ps := by
      rcases ih with rfl | ⟨m, rfl, A⟩
      · exact ok_zero
      · exact ok13 B A F13
    obtain ⟨f14, fd14, F14, g14, l14⟩ := B.f14
    have o14 : Ok g n 14 "_law_sm_least" f14 fd14 d14.ps := by
      rcases ih with rfl | ⟨m, rfl, A⟩
      · exact ok_zero
      · exact ok14 B A F14 l14
    obtain ⟨f15, fd15, F15, g15, l15⟩ := B.f15
    have o15 : Ok g n 15 "_law_sm_missed" f15 fd15 d15.ps := by
      rcases ih with rfl | ⟨m, rfl, A⟩
      · exact ok_zero
      · exact ok15 B A F15 l15
    constructor
    · intro k x m h
      simp only [fns, List.mem_cons, List.not_mem_nil, or_false, Prod.mk.injEq] at h
      rcases h with ⟨rfl, rfl, rfl⟩ | ⟨rfl, rfl, rfl⟩ | ⟨rfl, rfl, rfl⟩ | ⟨rfl, rfl, rfl⟩ | ⟨rfl, rfl, rfl⟩ | ⟨rfl, rfl, rfl⟩ | ⟨rfl, rfl, rfl⟩ | ⟨rfl, rfl, rfl⟩ | ⟨rfl, rfl, rfl⟩ | ⟨rfl, rfl, rfl⟩ | ⟨rfl, rfl, rfl⟩ | ⟨rfl, rfl, rfl⟩ | ⟨rfl, rfl, rfl⟩ | ⟨rfl, rfl, rfl⟩ | ⟨rfl, rfl, rfl⟩ | ⟨rfl, rfl, rfl⟩
      · rcases ih with rfl | ⟨m, rfl, A⟩
        · obtain ⟨f, fd, h1, h2, h3⟩ := B.dm
          exact ⟨f, fd, _, h1, h2, h3, rfl, ok_zero (x := "_law_draw")⟩
        · cases m with
          | zero =>
            obtain ⟨f, fd, h1, h2, h3⟩ := B.dm
            exact ⟨f, fd, _, h1, h2, h3, rfl, ⟨fun _ _ _ _ ⟨_, _, _, _, a⟩ => a.elim, fun _ _ _ _ _ _ _ _ _ _ _ _ _ ⟨_, _, _, _, a⟩ => a.elim⟩⟩
          | succ m => exact B.dr (m + 1) _ (Nat.succ_ne_zero m) (by omega)
      · exact ⟨f1, fd1, d1.ps, g1, F1.kp, bd1 F1, rfl, o1⟩
      · exact ⟨f2, fd2, d2.ps, g2, F2.kp, bd2 F2, rfl, o2⟩
      · exact ⟨f3, fd3, d3.ps, g3, F3.kp, bd3 F3, rfl, o3⟩
      · exact ⟨f4, fd4, d4.ps, g4, F4.kp, bd4 F4, rfl, o4⟩
      · exact ⟨f5, fd5, d5.ps, g5, F5.kp, bd5 F5, rfl, o5⟩
      · exact ⟨f6, fd6, d6.ps, g6, F6.kp, bd6 F6, rfl, o6⟩
      · exact ⟨f7, fd7, d7.ps, g7, F7.kp, bd7 F7, rfl, o7⟩
      · exact ⟨f8, fd8, d8.ps, g8, F8.kp, bd8 F8, rfl, o8⟩
      · exact ⟨f9, fd9, d9.ps, g9, F9.kp, bd9 F9, rfl, o9⟩
      · exact ⟨f10, fd10, d10.ps, g10, F10.kp, bd10 F10, rfl, o10⟩
      · exact ⟨f11, fd11, d11.ps, g11, F11.kp, bd11 F11, rfl, o11⟩
      · exact ⟨f12, fd12, d12.ps, g12, F12.kp, bd12 F12, rfl, o12⟩
      · exact ⟨f13, fd13, d13.ps, g13, F13.kp, bd13 F13, rfl, o13⟩
      · exact ⟨f14, fd14, d14.ps, g14, F14.kp, bd14 F14, rfl, o14⟩
      · exact ⟨f15, fd15, d15.ps, g15, F15.kp, bd15 F15, rfl, o15⟩
    · intro k x ks pm h
      simp only [kws, List.mem_cons, List.not_mem_nil, or_false, Prod.mk.injEq] at h
      rcases h with ⟨rfl, rfl, rfl, rfl⟩ | ⟨rfl, rfl, rfl, rfl⟩
      · exact ⟨⟨f4, fd4, d4.ps, g4, F4.kp, o4, bindsK F4 (fun _ _ _ _ _ _ ws ys hl hy => match ws, hl, hy with | [a0, a1, a2], _, hy => by cases hy; rfl)⟩, rfl⟩
      · exact ⟨⟨f5, fd5, d5.ps, g5, F5.kp, o5, bindsK F5 (fun _ _ _ _ _ _ ws ys hl hy => match ws, hl, hy with | [a0, a1, a2], _, hy => by cases hy; rfl)⟩, rfl⟩
    · intro k x m ks pm h
      simp [mws] at h
end LW
end
section
set_option maxHeartbeats 4000000
namespace LW
open PySem PySem.Spec PyProof.Rows L2 PV
def dd (x : Str) (i : Nat) : He.DefD := ⟨(x, none), x, x, defArgs (top i), defBody (top i), defScope (top i), [], []⟩
def fn : List He.DefD := [dd "is_whole" 2, dd "is_number" 3, dd "need_wrong" 13, dd "miss_chance" 14, dd "least_sample" 15, dd "_law_begun" 17, dd "_law_blended" 18, dd "_law_draw" 19, dd "_law_pick" 20, dd "_law_caught" 21, dd "_law_is_whole" 22, dd "_law_rc_within" 23, dd "_law_au_ways" 24, dd "_law_au_lowest" 25, dd "_law_au_lots" 26, dd "_law_sm_chance" 27, dd "_law_sm_is_chance" 28, dd "_law_sm_least" 29, dd "_law_sm_missed" 30, dd "law" 31]
def fa0 : List He.Fa := [.glo "is_whole", .glo "is_number", .glo "need_wrong", .glo "miss_chance", .glo "least_sample", .glo "_law_begun", .glo "_law_blended", .glo "_law_draw", .glo "_law_pick", .glo "_law_caught", .glo "_law_is_whole", .glo "_law_rc_within", .glo "_law_au_ways", .glo "_law_au_lowest", .glo "_law_au_lots", .glo "_law_sm_chance", .glo "_law_sm_is_chance", .glo "_law_sm_least", .glo "_law_sm_missed", .glo "law", .free "abs", .free "max", .free "min", .free "len", .free "sum", .free "all", .free "any", .free "sorted", .free "list", .free "tuple"]
def fa1 : List He.Fa := [.free "int", .free "bool", .free "str", .free "isinstance", .free "range", .free "zip", .free "enumerate", .int "MOST_CLAIMS" 60, .int "MOST_SAMPLED" 1000, .exc "HoweverError", .exc "BadChance", .exc "BadClaims", .exc "BadSample", .exc "BadWrong", .glo "HoweverError", .glo "BadChance", .glo "BadClaims", .glo "BadSample", .glo "BadWrong"]
def fa : List He.Fa := fa0 ++ fa1
def loose0 : List PySem.Str := ["is_whole", "is_number", "need_wrong", "miss_chance", "least_sample", "_law_begun", "_law_blended", "_law_draw", "_law_pick", "_law_caught", "_law_is_whole", "_law_rc_within", "_law_au_ways", "_law_au_lowest", "_law_au_lots", "_law_sm_chance", "_law_sm_is_chance", "_law_sm_least", "_law_sm_missed", "MOST_CLAIMS", "MOST_SAMPLED", "HoweverError", "BadChance", "BadClaims", "BadSample", "BadWrong"]
def loose : List PySem.Str := loose0
abbrev R : PySem.W.OpenRow := PySem.W.OpenLaw.row PySem.Challenge.rw_samehowever_k81_samples_that_miss
def tf : List He.Defn := [("_law_sm_least", none), ("_law_sm_missed", none)]
def cadK (K : PySem.W.Frag) (k : Nat) : Addr := match cls.lookup k with
  | some x => He.ga K x
  | none => 0
def exB (K : PySem.W.Frag) : Bool := (bfs.all fun p => He.eqO (PySem.W.nsIn K mainGlobals p.1) (some (some (.builtin p.2)))) && (exsB K (cadK K) nx (exs.map (·.1)) && (cauB K (cadK K) nx (He.ga K "HoweverError") && decide ((tf.map fun p => (He.cT K p).2).Nodup)))
abbrev hk : PySem.W.Hook := He.hookX 4 fa fn [] tf exB
def ob (s : PySem.W.SharedT) : He.AlX := He.obsX 4 fa fn [] tf exB (HandSHeadRun.getT s)
theorem ob_eq (s : PySem.W.SharedT) : ob s = hk.obs s.abs := He.obsX_eq (HandSHeadRun.getT_eq s)
theorem run (w : World) : HandSHeadRun.RunEqI R (PySem.W.view R.prog [0, 31]) hk ob 8000 loose w := by
  unfold HandSHeadRun.RunEqI
  kernel_rfl
theorem base_of {P : Program} {w : World} {K : PySem.W.Frag} {h : Heap} {mg : Str → Option Value} (X : K.In h) (G : h.Ns mainGlobals mg) (cx : He.SaysX fa fn [] tf exB w h K) (base : Heap) (TB : ∀ p ∈ tf.map (He.cT K), LamX.TabB base mg p.1 p.2) (Hs : Hp) (s gr ce : Addr) : Base (gD P w K mg base (cadK K) (TK K tf) Hs s gr ce) := by
  have c := cx.t.d
  obtain ⟨x1, x2⟩ := He.ba cx.more
  obtain ⟨x2, x3⟩ := He.ba x2
  obtain ⟨x3, x4⟩ := He.ba x3
  have x4 := of_decide_eq_true x4
  obtain ⟨e0, E0⟩ := c.def_ 0 (d := dd "is_whole" 2) rfl
  have m0 := He.glo_ok X G (c.fact 0 (f := .glo "is_whole") rfl)
  obtain ⟨e1, E1⟩ := c.def_ 1 (d := dd "is_number" 3) rfl
  have m1 := He.glo_ok X G (c.fact 1 (f := .glo "is_number") rfl)
  obtain ⟨e2, E2⟩ := c.def_ 2 (d := dd "need_wrong" 13) rfl
  have m2 := He.glo_ok X G (c.fact 2 (f := .glo "need_wrong") rfl)
  obtain ⟨e3, E3⟩ := c.def_ 3 (d := dd "miss_chance" 14) rfl
  have m3 := He.glo_ok X G (c.fact 3 (f := .glo "miss_chance") rfl)
  obtain ⟨e4, E4⟩ := c.def_ 4 (d := dd "least_sample" 15) rfl
  have m4 := He.glo_ok X G (c.fact 4 (f := .glo "least_sample") rfl)
  obtain ⟨e6, E6⟩ := c.def_ 6 (d := dd "_law_blended" 18) rfl
  have m6 := He.glo_ok X G (c.fact 6 (f := .glo "_law_blended") rfl)
  obtain ⟨e7, E7⟩ := c.def_ 7 (d := dd "_law_draw" 19) rfl
  have m7 := He.glo_ok X G (c.fact 7 (f := .glo "_law_draw") rfl)
  obtain ⟨e8, E8⟩ := c.def_ 8 (d := dd "_law_pick" 20) rfl
  have m8 := He.glo_ok X G (c.fact 8 (f := .glo "_law_pick") rfl)
  obtain ⟨e9, E9⟩ := c.def_ 9 (d := dd "_law_caught" 21) rfl
  have m9 := He.glo_ok X G (c.fact 9 (f := .glo "_law_caught") rfl)
  obtain ⟨e10, E10⟩ := c.def_ 10 (d := dd "_law_is_whole" 22) rfl
  have m10 := He.glo_ok X G (c.fact 10 (f := .glo "_law_is_whole") rfl)
  obtain ⟨e11, E11⟩ := c.def_ 11 (d := dd "_law_rc_within" 23) rfl
  have m11 := He.glo_ok X G (c.fact 11 (f := .glo "_law_rc_within") rfl)
  obtain ⟨e12, E12⟩ := c.def_ 12 (d := dd "_law_au_ways" 24) rfl
  have m12 := He.glo_ok X G (c.fact 12 (f := .glo "_law_au_ways") rfl)
  obtain ⟨e13, E13⟩ := c.def_ 13 (d := dd "_law_au_lowest" 25) rfl
  have m13 := He.glo_ok X G (c.fact 13 (f := .glo "_law_au_lowest") rfl)
  obtain ⟨e14, E14⟩ := c.def_ 14 (d := dd "_law_au_lots" 26) rfl
  have m14 := He.glo_ok X G (c.fact 14 (f := .glo "_law_au_lots") rfl)
  obtain ⟨e15, E15⟩ := c.def_ 15 (d := dd "_law_sm_chance" 27) rfl
  have m15 := He.glo_ok X G (c.fact 15 (f := .glo "_law_sm_chance") rfl)
  obtain ⟨e16, E16⟩ := c.def_ 16 (d := dd "_law_sm_is_chance" 28) rfl
  have m16 := He.glo_ok X G (c.fact 16 (f := .glo "_law_sm_is_chance") rfl)
  obtain ⟨e17, E17⟩ := c.def_ 17 (d := dd "_law_sm_least" 29) rfl
  have m17 := He.glo_ok X G (c.fact 17 (f := .glo "_law_sm_least") rfl)
  obtain ⟨e18, E18⟩ := c.def_ 18 (d := dd "_law_sm_missed" 30) rfl
  have m18 := He.glo_ok X G (c.fact 18 (f := .glo "_law_sm_missed") rfl)
  have fr : ∀ x ∈ freeNames, mg x = none := by
    intro x hx
    simp only [freeNames, List.mem_cons, List.not_mem_nil, or_false] at hx
    rcases hx with rfl | rfl | rfl | rfl | rfl | rfl | rfl | rfl | rfl | rfl | rfl | rfl | rfl | rfl | rfl | rfl | rfl
    · exact He.free_ok X G (c.fact 20 (f := .free "abs") rfl)
    · exact He.free_ok X G (c.fact 21 (f := .free "max") rfl)
    · exact He.free_ok X G (c.fact 22 (f := .free "min") rfl)
    · exact He.free_ok X G (c.fact 23 (f := .free "len") rfl)
    · exact He.free_ok X G (c.fact 24 (f := .free "sum") rfl)
    · exact He.free_ok X G (c.fact 25 (f := .free "all") rfl)
    · exact He.free_ok X G (c.fact 26 (f := .free "any") rfl)
    · exact He.free_ok X G (c.fact 27 (f := .free "sorted") rfl)
    · exact He.free_ok X G (c.fact 28 (f := .free "list") rfl)
    · exact He.free_ok X G (c.fact 29 (f := .free "tuple") rfl)
    · exact He.free_ok X G (c.fact 30 (f := .free "int") rfl)
    · exact He.free_ok X G (c.fact 31 (f := .free "bool") rfl)
    · exact He.free_ok X G (c.fact 32 (f := .free "str") rfl)
    · exact He.free_ok X G (c.fact 33 (f := .free "isinstance") rfl)
    · exact He.free_ok X G (c.fact 34 (f := .free "range") rfl)
    · exact He.free_ok X G (c.fact 35 (f := .free "zip") rfl)
    · exact He.free_ok X G (c.fact 36 (f := .free "enumerate") rfl)
  have OD := ok_draw (P := P) (w := w) (mg := mg) (base := base) (s := s) (gr := gr) (ce := ce) E7 E6 (fr "int" (by decide +kernel)) m6
  have bD : Binds K e7 ["state", "size_here"] [] := E7.bindsN fun _ _ _ _ _ _ us hl => match us, hl with | [_, _], _ => rfl
  have mH : mg "HoweverError" = some (.ref (He.ga K "HoweverError")) := He.glo_ok X G (c.fact 44 (f := .glo "HoweverError") rfl)
  have bC : Binds K e9 ["work"] [] := E9.bindsN fun _ _ _ _ _ _ us hl => match us, hl with | [_], _ => rfl
  refine ⟨⟨_, _, E0, m0⟩, ⟨_, _, E1, m1⟩, ⟨_, _, E2, m2⟩, ⟨_, _, E3, m3⟩, ⟨_, _, E4, m4⟩, ⟨_, _, E8, m8⟩, ⟨_, _, E10, m10⟩, ⟨_, _, E11, m11⟩, ⟨_, _, E12, m12⟩, ⟨_, _, E13, m13⟩, ⟨_, _, E14, m14⟩, ⟨_, _, E15, m15⟩, ⟨_, _, E16, m16⟩, ⟨_, _, E17, m17, lamD_of E17 (by decide +kernel) x4 TB⟩, ⟨_, _, E18, m18, lamD_of E18 (by decide +kernel) x4 TB⟩, fr, fun x i hx => ?_, fun x id hx => PySem.W.mg_of X G (He.eqO_ok (List.all_eq_true.mp x1 _ hx)), fun k x hx => ?_, fun _ => cauF_of (st := top 21) E9 m9 rfl ⟨rfl, rfl, rfl, by decide +kernel, rfl, by decide +kernel, by decide +kernel⟩ bC rfl rfl rfl (Or.inl rfl) mH x3, fun k x hx => ?_, fun n N hn hN => fne_draw hn hN OD m7 E7.kp bD, ⟨_, _, m7, E7.kp, bD⟩⟩
  · simp only [cons, List.mem_cons, List.not_mem_nil, or_false, Prod.mk.injEq] at hx
    rcases hx with ⟨rfl, rfl⟩ | ⟨rfl, rfl⟩
    · exact He.int_ok X G (c.fact 37 (f := .int "MOST_CLAIMS" 60) rfl)
    · exact He.int_ok X G (c.fact 38 (f := .int "MOST_SAMPLED" 1000) rfl)
  · simp only [LW.cls, List.mem_cons, List.not_mem_nil, or_false, Prod.mk.injEq] at hx
    rcases hx with ⟨rfl, rfl⟩ | ⟨rfl, rfl⟩ | ⟨rfl, rfl⟩ | ⟨rfl, rfl⟩ | ⟨rfl, rfl⟩
    · obtain ⟨c1, c2, c3, c4⟩ := He.exc_ok (c.fact 39 (f := .exc "HoweverError") rfl)
      exact ⟨He.glo_ok X G (c.fact 44 (f := .glo "HoweverError") rfl), c2, c1, c3, c4⟩
    · obtain ⟨c1, c2, c3, c4⟩ := He.exc_ok (c.fact 40 (f := .exc "BadChance") rfl)
      exact ⟨He.glo_ok X G (c.fact 45 (f := .glo "BadChance") rfl), c2, c1, c3, c4⟩
    · obtain ⟨c1, c2, c3, c4⟩ := He.exc_ok (c.fact 41 (f := .exc "BadClaims") rfl)
      exact ⟨He.glo_ok X G (c.fact 46 (f := .glo "BadClaims") rfl), c2, c1, c3, c4⟩
    · obtain ⟨c1, c2, c3, c4⟩ := He.exc_ok (c.fact 42 (f := .exc "BadSample") rfl)
      exact ⟨He.glo_ok X G (c.fact 47 (f := .glo "BadSample") rfl), c2, c1, c3, c4⟩
    · obtain ⟨c1, c2, c3, c4⟩ := He.exc_ok (c.fact 43 (f := .exc "BadWrong") rfl)
      exact ⟨He.glo_ok X G (c.fact 48 (f := .glo "BadWrong") rfl), c2, c1, c3, c4⟩
  · simp only [LW.exs, List.mem_cons, List.not_mem_nil, or_false, Prod.mk.injEq] at hx
    rcases hx with ⟨rfl, rfl⟩ | ⟨rfl, rfl⟩ | ⟨rfl, rfl⟩ | ⟨rfl, rfl⟩
    · exact exsB_ok x2 (by decide +kernel) (He.glo_ok X G (c.fact 45 (f := .glo "BadChance") rfl))
    · exact exsB_ok x2 (by decide +kernel) (He.glo_ok X G (c.fact 46 (f := .glo "BadClaims") rfl))
    · exact exsB_ok x2 (by decide +kernel) (He.glo_ok X G (c.fact 47 (f := .glo "BadSample") rfl))
    · exact exsB_ok x2 (by decide +kernel) (He.glo_ok X G (c.fact 48 (f := .glo "BadWrong") rfl))
theorem law_facts (hT : ∀ ns : List Int, ns.length ≤ 63 → (ex (callF tab WH 10) WH dL.body (startE dL.N [.scr ns, .sta])).All (fun _ fl => fl = .rt (.bl true)) (fun _ _ => False) LIM)
    {P : Program} {w : World} {K : PySem.W.Frag} {h : Heap} {mg : Str → Option Value} {f : Addr} (X : K.In h) (G : h.Ns mainGlobals mg) (hfa : mg ("law" : Str) = some (.ref f)) (cx : He.SaysX fa fn [] tf exB w h K) :
    ∃ fd : FuncData, (∀ (s : Shared) (v : Value), BindsTo s fd ⟨[v], []⟩ [("script", v)]) ∧ ∀ base : Heap, K.In base → base.Ns mainGlobals mg → (∀ p ∈ tf.map (He.cT K), LamX.TabB base mg p.1 p.2) → FnOk P w K mg base CX0 33 f fd ["script"] (spLaw K (TK K tf)) := by
  have c := cx.t.d
  obtain ⟨fd, F⟩ := c.def_ 19 (d := dd "law" 31) rfl
  obtain ⟨fdG, FG⟩ := c.def_ 5 (d := dd "_law_begun" 17) rfl
  have e := hfa.symm.trans (He.glo_ok X G (c.fact 19 (f := .glo "law") rfl))
  cases e
  have b := FunD.bindsA (ps := ["script"]) F fun _ _ _ _ _ _ us hl => match us, hl with | [_], _ => rfl
  refine ⟨fd, fun s v => b s [v] rfl, fun base _ _ TB => ?_⟩
  have x4 := of_decide_eq_true (He.ba (He.ba (He.ba cx.more).2).2).2
  have B := fun Hs s gr ce => base_of (P := P) (w := w) X G cx base TB Hs s gr ce
  have hg := He.glo_ok X G (c.fact 5 (f := .glo "_law_begun") rfl)
  have bG : Binds K fdG ["script"] [] := FG.bindsN fun _ _ _ _ _ _ us hl => match us, hl with | [_], _ => rfl
  have OG := ok_begun (P := P) (w := w) (base := base) FG (B (fun _ => none) 0 0 0).free
  exact law_ok (ck := ckL) (m := 10) (n := 3 * 10) (wh := WH) (Pt := tab) (body := dL.body) (s0 := (defBody (top 31)).getD 0 (.Pass ⟨0, 0, 0, 0⟩)) (rest := (defBody (top 31)).drop 1) F scL (show 2 ≤ dL.N.length by decide) (fun Hs s gr ce => facts (B Hs s gr ce) (at_ (B Hs s gr ce) 10) scL.nd rfl rfl rfl rfl rfl rfl rfl (fun h => absurd rfl h)) rfl
    (fun cdv A outer s H E hr => ps_set (i := 1) scL.nd rfl (Or.inl rfl) (pe_call OG (hr.mono (by decide)) rfl hg FG.kp bG .nil pass0 (pa_cons (pv 0) pa_nil))) (fun h Hs s gr ce => (by cases h)) rfl chL hT
end LW
end
section
set_option maxHeartbeats 400000
/-! numbers: rows, common parts, lots -/
namespace LW
def rng (lo hi : Int) : List Int := (List.range (hi - lo).toNat).map fun k => lo + (k : Nat)
theorem mem_rng {lo hi x : Int} : x ∈ rng lo hi ↔ lo ≤ x ∧ x < hi := by
  unfold rng
  rw [List.mem_map]
  constructor
  · rintro ⟨k, hk, rfl⟩
    rw [List.mem_range] at hk
    omega
  · intro h
    exact ⟨(x - lo).toNat, by rw [List.mem_range]; omega, by omega⟩
/-! ### greatest common parts -/
def gz (p q : Int) : Int := ((Nat.gcd p.natAbs q.natAbs : Nat) : Int)
theorem gz_pos {p q : Int} (hq : 1 ≤ q) : 1 ≤ gz p q := by
  unfold gz
  have : 0 < Nat.gcd p.natAbs q.natAbs := Nat.gcd_pos_of_pos_right _ (by omega)
  omega
theorem gz_le {p q : Int} (hq : 1 ≤ q) : gz p q ≤ q := by
  unfold gz
  have : Nat.gcd p.natAbs q.natAbs ≤ q.natAbs := Nat.le_of_dvd (by omega) (Nat.gcd_dvd_right _ _)
  omega
theorem gz_left (p q : Int) : gz p q ∣ p := by
  unfold gz
  exact Int.ofNat_dvd_left.mpr (Nat.gcd_dvd_left _ _)
theorem gz_right (p q : Int) : gz p q ∣ q := by
  unfold gz
  exact Int.ofNat_dvd_left.mpr (Nat.gcd_dvd_right _ _)
theorem gz_zero {p : Int} (h : 0 ≤ p) : gz p 0 = p := by
  unfold gz
  rw [show (0 : Int).natAbs = 0 from rfl, Nat.gcd_zero_right]
  omega
theorem gz_step {p q : Int} (hp : 0 ≤ p) (hq : 0 < q) : gz q (p % q) = gz p q := by
  obtain ⟨a, rfl⟩ := Int.eq_ofNat_of_zero_le hp
  obtain ⟨b, rfl⟩ := Int.eq_ofNat_of_zero_le (Int.le_of_lt hq)
  unfold gz
  rw [← Int.natCast_emod]
  simp only [Int.natAbs_natCast]
  rw [Nat.gcd_comm a b, Nat.gcd_rec b a, Nat.gcd_comm]
theorem mod_half {b c k : Int} (hc : 0 < c) (hcb : c < b) (hb : b < 2 * k) : b % c < k := by
  have h1 := Int.emod_lt_of_pos b hc
  have h2 := Int.mul_ediv_add_emod b c
  have h3 := Int.emod_nonneg b (b := c) (by omega)
  have h4 : 1 ≤ b / c := by
    rw [Int.le_ediv_iff_mul_le hc]
    omega
  have h5 : c * 1 ≤ c * (b / c) := Int.mul_le_mul_of_nonneg_left h4 (by omega)
  omega
/-- a fraction in lowest terms, times what was taken out -/
theorem low_mul (p q : Int) : p / gz p q * gz p q = p ∧ q / gz p q * gz p q = q := ⟨Int.ediv_mul_cancel (gz_left p q), Int.ediv_mul_cancel (gz_right p q)⟩
theorem low_pos {p q : Int} (hp : 0 ≤ p) (hq : 1 ≤ q) : 0 ≤ p / gz p q ∧ 1 ≤ q / gz p q := by
  have g1 := gz_pos (p := p) hq
  refine ⟨Int.ediv_nonneg hp (by omega), ?_⟩
  rw [Int.le_ediv_iff_mul_le (by omega)]
  have := gz_le (p := p) hq
  omega
/-- comparing with p / q or with its lowest terms -/
theorem low_cmp {p q x a : Int} (hq : 1 ≤ q) : (x * (q / gz p q) ≤ p / gz p q * a ↔ x * q ≤ p * a) ∧ (x * (q / gz p q) = p / gz p q * a ↔ x * q = p * a) := by
  have g1 := gz_pos (p := p) hq
  obtain ⟨e1, e2⟩ := low_mul p q
  generalize p / gz p q = P at *
  generalize q / gz p q = Q at *
  generalize gz p q = g at *
  have hl : x * q = x * Q * g := by rw [← e2, Int.mul_assoc]
  have hr : p * a = P * a * g := by rw [← e1, Int.mul_assoc, Int.mul_comm g a, Int.mul_assoc]
  rw [hl, hr]
  refine ⟨⟨fun h => Int.mul_le_mul_of_nonneg_right h (by omega), fun h => Int.le_of_mul_le_mul_right h (by omega)⟩, ⟨fun h => by rw [h], fun h => Int.eq_of_mul_eq_mul_right (by omega) h⟩⟩

/-! ### how many lots -/
def ch : Nat → Nat → Nat
  | _, 0 => 1
  | 0, _ + 1 => 0
  | n + 1, k + 1 => ch n k + ch n (k + 1)
def fct : Nat → Nat
  | 0 => 1
  | k + 1 => fct k * (k + 1)
def fl (n : Nat) : Nat → Nat
  | 0 => 1
  | k + 1 => fl n k * (n - k)
theorem ch_zero (n : Nat) : ch n 0 = 1 := by cases n <;> rfl
theorem ch_big : ∀ n k, n < k → ch n k = 0
  | _, 0, h => by omega
  | 0, _ + 1, _ => rfl
  | n + 1, k + 1, h => by
    show ch n k + ch n (k + 1) = 0
    rw [ch_big n k (by omega), ch_big n (k + 1) (by omega)]
theorem ch_self : ∀ n, ch n n = 1
  | 0 => rfl
  | n + 1 => by
    show ch n n + ch n (n + 1) = 1
    rw [ch_self n, ch_big n (n + 1) (by omega)]
theorem ch_pos : ∀ n k, k ≤ n → 0 < ch n k
  | n, 0, _ => by rw [ch_zero]; omega
  | 0, _ + 1, h => by omega
  | n + 1, k + 1, h => by
    show 0 < ch n k + ch n (k + 1)
    have := ch_pos n k (by omega)
    omega
theorem ch_step : ∀ n k, ch n (k + 1) * (k + 1) = ch n k * (n - k)
  | 0, 0 => rfl
  | 0, k + 1 => by
    show 0 * _ = 0 * _
    rw [Nat.zero_mul, Nat.zero_mul]
  | n + 1, 0 => by
    have h : ch n 1 * 1 = ch n 0 * n := ch_step n 0
    show (ch n 0 + ch n 1) * 1 = 1 * (n + 1)
    rw [ch_zero] at h ⊢
    omega
  | n + 1, k + 1 => by
    have h1 := ch_step n k
    have h2 := ch_step n (k + 1)
    show (ch n (k + 1) + ch n (k + 2)) * (k + 2) = (ch n k + ch n (k + 1)) * (n + 1 - (k + 1))
    rw [Nat.add_mul, Nat.add_mul, h2, Nat.add_sub_add_right, ← h1]
    by_cases c : k + 1 ≤ n
    · rw [← Nat.mul_add, ← Nat.mul_add]
      congr 1
      omega
    · rw [ch_big n (k + 1) (by omega)]
      simp only [Nat.zero_mul]
theorem ch_fl (n : Nat) : ∀ k, ch n k * fct k = fl n k
  | 0 => by rw [ch_zero]; rfl
  | k + 1 => by
    show ch n (k + 1) * (fct k * (k + 1)) = fl n k * (n - k)
    rw [← ch_fl n k, Nat.mul_comm (fct k), ← Nat.mul_assoc, ch_step, Nat.mul_assoc, Nat.mul_comm (n - k), Nat.mul_assoc]
theorem ch_sym : ∀ a b, ch (a + b) a = ch (a + b) b
  | 0, b => by rw [Nat.zero_add, ch_zero, ch_self]
  | a + 1, 0 => by rw [Nat.add_zero, ch_self, ch_zero]
  | a + 1, b + 1 => by
    have h1 := ch_sym a (b + 1)
    have h2 := ch_sym (a + 1) b
    rw [show a + 1 + (b + 1) = (a + b + 1) + 1 by omega]
    show ch (a + b + 1) a + ch (a + b + 1) (a + 1) = ch (a + b + 1) b + ch (a + b + 1) (b + 1)
    rw [show a + (b + 1) = a + b + 1 by omega] at h1
    rw [show a + 1 + b = a + b + 1 by omega] at h2
    omega
theorem fa_pos : ∀ k, 0 < fct k
  | 0 => by decide
  | k + 1 => Nat.mul_pos (fa_pos k) (by omega)
theorem ch_two : ∀ n k, ch (n + 1) k ≤ 2 ^ n
  | 0, 0 => by decide
  | 0, 1 => by decide
  | 0, k + 2 => by show ch 0 (k + 1) + ch 0 (k + 2) ≤ _; exact Nat.zero_le _
  | n + 1, 0 => by
    rw [ch_zero]
    exact Nat.one_le_two_pow
  | n + 1, k + 1 => by
    show ch (n + 1) k + ch (n + 1) (k + 1) ≤ 2 ^ (n + 1)
    have h1 := ch_two n k
    have h2 := ch_two n (k + 1)
    rw [Nat.pow_succ]
    omega
theorem ch_60 {n k : Nat} (h1 : 1 ≤ n) (h : n ≤ 60) : ch n k < 1000000000000000000 := by
  obtain ⟨m, rfl⟩ : ∃ m, n = m + 1 := ⟨n - 1, by omega⟩
  have h2 := ch_two m k
  have h3 : 2 ^ m ≤ 2 ^ 59 := Nat.pow_le_pow_right (by decide) (by omega)
  have h4 : (2 : Nat) ^ 59 < 1000000000000000000 := by decide
  omega
theorem fl_le {n : Nat} (h : n ≤ 1000) : ∀ k, fl n k ≤ 1000 ^ k
  | 0 => Nat.le_refl _
  | k + 1 => Nat.mul_le_mul (fl_le h k) (by omega)
theorem fa_30 : ∀ k < 31, 1000 ^ k < 2 ^ 192 * fct k := by decide +kernel
theorem ch_1000 {n k : Nat} (h : n ≤ 1000) (hk : k ≤ 30) : ch n k < 2 ^ 192 := by
  have h1 := ch_fl n k
  have h2 := fl_le h k
  have h3 := fa_30 k (by omega)
  have h4 : ch n k * fct k < 2 ^ 192 * fct k := by omega
  exact Nat.lt_of_mul_lt_mul_right h4
/-! the model's own -/
theorem fp_fl {n : Nat} : ∀ k, k ≤ n → PySem.Builtin.Math.fallingProduct (n : Int) k = (fl n k : Nat)
  | 0, _ => rfl
  | k + 1, h => by
    rw [PySem.W.mc_fp_succ, fp_fl k (by omega), show (n : Int) - (k : Int) = ((n - k : Nat) : Int) by omega, ← Int.natCast_mul]
    rfl
theorem fl_div {n k : Nat} : ((fl n k : Nat) : Int) / ((fl k k : Nat) : Int) = (ch n k : Nat) := by
  rw [← ch_fl n k, ← ch_fl k k, ch_self, Nat.one_mul, ← Int.natCast_ediv, Nat.mul_div_cancel _ (fa_pos k)]
theorem comb_ch {n k : Nat} : PySem.W.mcComb (n : Int) (k : Int) = (ch n k : Nat) := by
  unfold PySem.W.mcComb
  split
  · rw [ch_big n k (by omega)]
    rfl
  · rename_i h
    by_cases c : k ≤ n - k
    · rw [show min (k : Int) ((n : Int) - k) = (k : Nat) by omega, Int.toNat_natCast, fp_fl k (by omega), fp_fl k (Nat.le_refl _), fl_div]
    · rw [show min (k : Int) ((n : Int) - k) = ((n - k : Nat) : Int) by omega, Int.toNat_natCast, fp_fl (n - k) (by omega), fp_fl (n - k) (Nat.le_refl _), fl_div]
      obtain ⟨m, rfl⟩ : ∃ m, n = k + m := ⟨n - k, by omega⟩
      rw [Nat.add_sub_cancel_left, ← ch_sym]
theorem ch_div {n k : Nat} : ch n k * (n - k) / (k + 1) = ch n (k + 1) := by
  rw [← ch_step, Nat.mul_div_cancel _ (by omega)]
/-- a fraction of lots, by falling products -/
theorem fl_ch {n m k : Nat} {p q : Int} : ((fl n k : Nat) : Int) * q ≤ p * (fl m k : Nat) ↔ ((ch n k : Nat) : Int) * q ≤ p * (ch m k : Nat) := by
  rw [← ch_fl n k, ← ch_fl m k, Int.natCast_mul, Int.natCast_mul, ← Int.mul_assoc, Int.mul_assoc, Int.mul_comm (fct k : Int) q, ← Int.mul_assoc]
  have := fa_pos k
  exact ⟨fun h => Int.le_of_mul_le_mul_right h (by omega), fun h => Int.mul_le_mul_of_nonneg_right h (by omega)⟩
end LW
end
section
set_option maxHeartbeats 1000000
namespace LW
open PySem PV
theorem pw18 : binT .pow (.int 10) (.int 18) = .ret (.int 1000000000000000000) := by
  show (if (0:Int) ≤ 18 ∧ (18:Int) ≤ 1000 ∧ (10 : Int).natAbs < 2 ^ 64 then T.ret (D.int ((10:Int) ^ (18:Int).toNat)) else T.bad) = _
  rw [if_pos (by decide)]
  rfl
theorem pw17 : binT .pow (.int 10) (.int 17) = .ret (.int 100000000000000000) := by
  show (if (0:Int) ≤ 17 ∧ (17:Int) ≤ 1000 ∧ (10 : Int).natAbs < 2 ^ 64 then T.ret (D.int ((10:Int) ^ (17:Int).toNat)) else T.bad) = _
  rw [if_pos (by decide)]
  rfl
theorem t3 {a b c : D} : lenT [a, b, c] (.tup [a, b, c]) = .ret (.tup [a, b, c]) := rfl
theorem t2 {a b : D} : lenT [a, b] (.tup [a, b]) = .ret (.tup [a, b]) := rfl
theorem q_fdivW {i j : Int} (h : 0 < j) (h2 : j < 2 ^ 200) : binT .fdiv (.int i) (.int j) = .ret (.int (i / j)) := if_pos ⟨h, h2⟩
/-- a value of a plain kind -/
def kd : D → Bool
  | .int _ => true | .bl _ => true | .non => true | .str _ => true | .tup _ => true | .lst _ => true | _ => false
def whB : D → Bool
  | .int i => decide (-1000000000000000000 < i) && decide (i < 1000000000000000000)
  | _ => false
def inD : D → Bool
  | .int _ => true
  | _ => false
theorem kd_fz {d : D} (h : kd d = true) : fz d = .ret d := by
  cases d <;> first | rfl | cases h
theorem f1 {n : Nat} {d : D} (h : kd d = true) : callF tab WH (n + 1) 1 [d] = .ret (.bl (whB d)) := by
  show runD (callF tab WH n) WH d1 _ = _
  rw [run_eq rfl]
  simp only [d1, startE]
  cases d with
  | int i =>
    have k : bltT .isint [.int i] = .ret (.bl true) := rfl
    have k2 : bltT .isbool [.int i] = .ret (.bl false) := rfl
    unfold whB
    by_cases h1 : -1000000000000000000 < i
    · simp only [e_non, e_bl, e_int, e_str, e_var, e_con, e_bin, e_neg, e_cmp, e_chain, e_and, e_or, e_not, e_ite, e_tup, e_lst, e_idx, e_slc, e_call, e_callK, e_blt, e_isk, e_caught, e_isx, e_op0, e_op1, e_callM, b_op1, b_callM, i_callK, i_op1, o_emp, o_revT, b_var, b_cmp, b_chain, b_and, b_or, b_not, b_yes, b_call, b_callK, b_blt, b_isx, b_isk, a_nil, a_cons, r_nil, r_cons, o_nopart, o_part, i_rng1, i_rng2, i_zip, i_enum, i_cap, i_var, i_blt, i_call, i_tup, i_lst, i_idx, i_slc, q_add, q_sub, q_neg, q_lt, q_le, q_gt, q_ge, q_eqI, q_neI, q_isNN, q_isNT, q_isNI, q_isNL, q_isBB, q_isNB, q_isNS, q_isnNN, q_isnNT, q_isnNI, q_isnNL, q_andT, q_andF, q_orT, q_orF, q_not, q_toB, q_part, q_fzI, q_fzB, q_fzS, q_fzN, q_fzT, q_fzL, q_fzW, q_fzSt, q_fzSc, s_nil, s_cons, k_nx, k_rt, k_bk, k_ct, s_asg, s_asgF, s_asgT, k_asg, s_par, s_expr, s_iff, s_retN, s_raise, s_brk, s_cont, s_pass, s_frz, k_frzO, k_frzV, s_retV, k_retO, k_retV, s_ret_non, s_ret_bl, s_ret_int, s_ret_str, s_ret_con, s_ret_bin, s_ret_neg, s_ret_cmp, s_ret_chain, s_ret_and, s_ret_or, s_ret_not, s_ret_ite, s_ret_tup, s_ret_lst, s_ret_idx, s_ret_slc, s_ret_call, s_ret_callK, s_ret_op0, s_ret_op1, s_ret_callM, s_ret_blt, s_ret_isx, s_ret_isk, s_ret_comp, s_app, k_runR, k_runN, for_nil, k_forN, k_forC, k_forB, k_forR, g_nm, g_tp, o_some, noErr_ret, Yes, retK, ret_bind, err_bind, bad_bind, draw_bind, getV, slOf, slO, setAll, parT, List.length_cons, List.length_nil, List.map_cons, List.map_nil, List.getElem?_cons_zero, List.getElem?_cons_succ, List.set_cons_zero, List.set_cons_succ, List.cons_append, List.nil_append, List.replicate_succ, List.replicate_zero, k, k2, pw18, h1, decide_true, if_true, Bool.not_false, Bool.true_and]
    · simp only [e_non, e_bl, e_int, e_str, e_var, e_con, e_bin, e_neg, e_cmp, e_chain, e_and, e_or, e_not, e_ite, e_tup, e_lst, e_idx, e_slc, e_call, e_callK, e_blt, e_isk, e_caught, e_isx, e_op0, e_op1, e_callM, b_op1, b_callM, i_callK, i_op1, o_emp, o_revT, b_var, b_cmp, b_chain, b_and, b_or, b_not, b_yes, b_call, b_callK, b_blt, b_isx, b_isk, a_nil, a_cons, r_nil, r_cons, o_nopart, o_part, i_rng1, i_rng2, i_zip, i_enum, i_cap, i_var, i_blt, i_call, i_tup, i_lst, i_idx, i_slc, q_add, q_sub, q_neg, q_lt, q_le, q_gt, q_ge, q_eqI, q_neI, q_isNN, q_isNT, q_isNI, q_isNL, q_isBB, q_isNB, q_isNS, q_isnNN, q_isnNT, q_isnNI, q_isnNL, q_andT, q_andF, q_orT, q_orF, q_not, q_toB, q_part, q_fzI, q_fzB, q_fzS, q_fzN, q_fzT, q_fzL, q_fzW, q_fzSt, q_fzSc, s_nil, s_cons, k_nx, k_rt, k_bk, k_ct, s_asg, s_asgF, s_asgT, k_asg, s_par, s_expr, s_iff, s_retN, s_raise, s_brk, s_cont, s_pass, s_frz, k_frzO, k_frzV, s_retV, k_retO, k_retV, s_ret_non, s_ret_bl, s_ret_int, s_ret_str, s_ret_con, s_ret_bin, s_ret_neg, s_ret_cmp, s_ret_chain, s_ret_and, s_ret_or, s_ret_not, s_ret_ite, s_ret_tup, s_ret_lst, s_ret_idx, s_ret_slc, s_ret_call, s_ret_callK, s_ret_op0, s_ret_op1, s_ret_callM, s_ret_blt, s_ret_isx, s_ret_isk, s_ret_comp, s_app, k_runR, k_runN, for_nil, k_forN, k_forC, k_forB, k_forR, g_nm, g_tp, o_some, noErr_ret, Yes, retK, ret_bind, err_bind, bad_bind, draw_bind, getV, slOf, slO, setAll, parT, List.length_cons, List.length_nil, List.map_cons, List.map_nil, List.getElem?_cons_zero, List.getElem?_cons_succ, List.set_cons_zero, List.set_cons_succ, List.cons_append, List.nil_append, List.replicate_succ, List.replicate_zero, k, k2, pw18, h1, decide_false, Bool.false_eq_true, if_false, Bool.not_false, Bool.false_and]
  | bl b =>
    have k : bltT .isint [.bl b] = .ret (.bl true) := rfl
    have k2 : bltT .isbool [.bl b] = .ret (.bl true) := rfl
    simp only [e_non, e_bl, e_int, e_str, e_var, e_con, e_bin, e_neg, e_cmp, e_chain, e_and, e_or, e_not, e_ite, e_tup, e_lst, e_idx, e_slc, e_call, e_callK, e_blt, e_isk, e_caught, e_isx, e_op0, e_op1, e_callM, b_op1, b_callM, i_callK, i_op1, o_emp, o_revT, b_var, b_cmp, b_chain, b_and, b_or, b_not, b_yes, b_call, b_callK, b_blt, b_isx, b_isk, a_nil, a_cons, r_nil, r_cons, o_nopart, o_part, i_rng1, i_rng2, i_zip, i_enum, i_cap, i_var, i_blt, i_call, i_tup, i_lst, i_idx, i_slc, q_add, q_sub, q_neg, q_lt, q_le, q_gt, q_ge, q_eqI, q_neI, q_isNN, q_isNT, q_isNI, q_isNL, q_isBB, q_isNB, q_isNS, q_isnNN, q_isnNT, q_isnNI, q_isnNL, q_andT, q_andF, q_orT, q_orF, q_not, q_toB, q_part, q_fzI, q_fzB, q_fzS, q_fzN, q_fzT, q_fzL, q_fzW, q_fzSt, q_fzSc, s_nil, s_cons, k_nx, k_rt, k_bk, k_ct, s_asg, s_asgF, s_asgT, k_asg, s_par, s_expr, s_iff, s_retN, s_raise, s_brk, s_cont, s_pass, s_frz, k_frzO, k_frzV, s_retV, k_retO, k_retV, s_ret_non, s_ret_bl, s_ret_int, s_ret_str, s_ret_con, s_ret_bin, s_ret_neg, s_ret_cmp, s_ret_chain, s_ret_and, s_ret_or, s_ret_not, s_ret_ite, s_ret_tup, s_ret_lst, s_ret_idx, s_ret_slc, s_ret_call, s_ret_callK, s_ret_op0, s_ret_op1, s_ret_callM, s_ret_blt, s_ret_isx, s_ret_isk, s_ret_comp, s_app, k_runR, k_runN, for_nil, k_forN, k_forC, k_forB, k_forR, g_nm, g_tp, o_some, noErr_ret, Yes, retK, ret_bind, err_bind, bad_bind, draw_bind, getV, slOf, slO, setAll, parT, List.length_cons, List.length_nil, List.map_cons, List.map_nil, List.getElem?_cons_zero, List.getElem?_cons_succ, List.set_cons_zero, List.set_cons_succ, List.cons_append, List.nil_append, List.replicate_succ, List.replicate_zero, k, k2, Bool.not_true, whB]
  | non =>
    have k : bltT .isint [.non] = .ret (.bl false) := rfl
    simp only [e_non, e_bl, e_int, e_str, e_var, e_con, e_bin, e_neg, e_cmp, e_chain, e_and, e_or, e_not, e_ite, e_tup, e_lst, e_idx, e_slc, e_call, e_callK, e_blt, e_isk, e_caught, e_isx, e_op0, e_op1, e_callM, b_op1, b_callM, i_callK, i_op1, o_emp, o_revT, b_var, b_cmp, b_chain, b_and, b_or, b_not, b_yes, b_call, b_callK, b_blt, b_isx, b_isk, a_nil, a_cons, r_nil, r_cons, o_nopart, o_part, i_rng1, i_rng2, i_zip, i_enum, i_cap, i_var, i_blt, i_call, i_tup, i_lst, i_idx, i_slc, q_add, q_sub, q_neg, q_lt, q_le, q_gt, q_ge, q_eqI, q_neI, q_isNN, q_isNT, q_isNI, q_isNL, q_isBB, q_isNB, q_isNS, q_isnNN, q_isnNT, q_isnNI, q_isnNL, q_andT, q_andF, q_orT, q_orF, q_not, q_toB, q_part, q_fzI, q_fzB, q_fzS, q_fzN, q_fzT, q_fzL, q_fzW, q_fzSt, q_fzSc, s_nil, s_cons, k_nx, k_rt, k_bk, k_ct, s_asg, s_asgF, s_asgT, k_asg, s_par, s_expr, s_iff, s_retN, s_raise, s_brk, s_cont, s_pass, s_frz, k_frzO, k_frzV, s_retV, k_retO, k_retV, s_ret_non, s_ret_bl, s_ret_int, s_ret_str, s_ret_con, s_ret_bin, s_ret_neg, s_ret_cmp, s_ret_chain, s_ret_and, s_ret_or, s_ret_not, s_ret_ite, s_ret_tup, s_ret_lst, s_ret_idx, s_ret_slc, s_ret_call, s_ret_callK, s_ret_op0, s_ret_op1, s_ret_callM, s_ret_blt, s_ret_isx, s_ret_isk, s_ret_comp, s_app, k_runR, k_runN, for_nil, k_forN, k_forC, k_forB, k_forR, g_nm, g_tp, o_some, noErr_ret, Yes, retK, ret_bind, err_bind, bad_bind, draw_bind, getV, slOf, slO, setAll, parT, List.length_cons, List.length_nil, List.map_cons, List.map_nil, List.getElem?_cons_zero, List.getElem?_cons_succ, List.set_cons_zero, List.set_cons_succ, List.cons_append, List.nil_append, List.replicate_succ, List.replicate_zero, k, whB]
  | str x =>
    have k : bltT .isint [.str x] = .ret (.bl false) := rfl
    simp only [e_non, e_bl, e_int, e_str, e_var, e_con, e_bin, e_neg, e_cmp, e_chain, e_and, e_or, e_not, e_ite, e_tup, e_lst, e_idx, e_slc, e_call, e_callK, e_blt, e_isk, e_caught, e_isx, e_op0, e_op1, e_callM, b_op1, b_callM, i_callK, i_op1, o_emp, o_revT, b_var, b_cmp, b_chain, b_and, b_or, b_not, b_yes, b_call, b_callK, b_blt, b_isx, b_isk, a_nil, a_cons, r_nil, r_cons, o_nopart, o_part, i_rng1, i_rng2, i_zip, i_enum, i_cap, i_var, i_blt, i_call, i_tup, i_lst, i_idx, i_slc, q_add, q_sub, q_neg, q_lt, q_le, q_gt, q_ge, q_eqI, q_neI, q_isNN, q_isNT, q_isNI, q_isNL, q_isBB, q_isNB, q_isNS, q_isnNN, q_isnNT, q_isnNI, q_isnNL, q_andT, q_andF, q_orT, q_orF, q_not, q_toB, q_part, q_fzI, q_fzB, q_fzS, q_fzN, q_fzT, q_fzL, q_fzW, q_fzSt, q_fzSc, s_nil, s_cons, k_nx, k_rt, k_bk, k_ct, s_asg, s_asgF, s_asgT, k_asg, s_par, s_expr, s_iff, s_retN, s_raise, s_brk, s_cont, s_pass, s_frz, k_frzO, k_frzV, s_retV, k_retO, k_retV, s_ret_non, s_ret_bl, s_ret_int, s_ret_str, s_ret_con, s_ret_bin, s_ret_neg, s_ret_cmp, s_ret_chain, s_ret_and, s_ret_or, s_ret_not, s_ret_ite, s_ret_tup, s_ret_lst, s_ret_idx, s_ret_slc, s_ret_call, s_ret_callK, s_ret_op0, s_ret_op1, s_ret_callM, s_ret_blt, s_ret_isx, s_ret_isk, s_ret_comp, s_app, k_runR, k_runN, for_nil, k_forN, k_forC, k_forB, k_forR, g_nm, g_tp, o_some, noErr_ret, Yes, retK, ret_bind, err_bind, bad_bind, draw_bind, getV, slOf, slO, setAll, parT, List.length_cons, List.length_nil, List.map_cons, List.map_nil, List.getElem?_cons_zero, List.getElem?_cons_succ, List.set_cons_zero, List.set_cons_succ, List.cons_append, List.nil_append, List.replicate_succ, List.replicate_zero, k, whB]
  | tup x =>
    have k : bltT .isint [.tup x] = .ret (.bl false) := rfl
    simp only [e_non, e_bl, e_int, e_str, e_var, e_con, e_bin, e_neg, e_cmp, e_chain, e_and, e_or, e_not, e_ite, e_tup, e_lst, e_idx, e_slc, e_call, e_callK, e_blt, e_isk, e_caught, e_isx, e_op0, e_op1, e_callM, b_op1, b_callM, i_callK, i_op1, o_emp, o_revT, b_var, b_cmp, b_chain, b_and, b_or, b_not, b_yes, b_call, b_callK, b_blt, b_isx, b_isk, a_nil, a_cons, r_nil, r_cons, o_nopart, o_part, i_rng1, i_rng2, i_zip, i_enum, i_cap, i_var, i_blt, i_call, i_tup, i_lst, i_idx, i_slc, q_add, q_sub, q_neg, q_lt, q_le, q_gt, q_ge, q_eqI, q_neI, q_isNN, q_isNT, q_isNI, q_isNL, q_isBB, q_isNB, q_isNS, q_isnNN, q_isnNT, q_isnNI, q_isnNL, q_andT, q_andF, q_orT, q_orF, q_not, q_toB, q_part, q_fzI, q_fzB, q_fzS, q_fzN, q_fzT, q_fzL, q_fzW, q_fzSt, q_fzSc, s_nil, s_cons, k_nx, k_rt, k_bk, k_ct, s_asg, s_asgF, s_asgT, k_asg, s_par, s_expr, s_iff, s_retN, s_raise, s_brk, s_cont, s_pass, s_frz, k_frzO, k_frzV, s_retV, k_retO, k_retV, s_ret_non, s_ret_bl, s_ret_int, s_ret_str, s_ret_con, s_ret_bin, s_ret_neg, s_ret_cmp, s_ret_chain, s_ret_and, s_ret_or, s_ret_not, s_ret_ite, s_ret_tup, s_ret_lst, s_ret_idx, s_ret_slc, s_ret_call, s_ret_callK, s_ret_op0, s_ret_op1, s_ret_callM, s_ret_blt, s_ret_isx, s_ret_isk, s_ret_comp, s_app, k_runR, k_runN, for_nil, k_forN, k_forC, k_forB, k_forR, g_nm, g_tp, o_some, noErr_ret, Yes, retK, ret_bind, err_bind, bad_bind, draw_bind, getV, slOf, slO, setAll, parT, List.length_cons, List.length_nil, List.map_cons, List.map_nil, List.getElem?_cons_zero, List.getElem?_cons_succ, List.set_cons_zero, List.set_cons_succ, List.cons_append, List.nil_append, List.replicate_succ, List.replicate_zero, k, whB]
  | lst x =>
    have k : bltT .isint [.lst x] = .ret (.bl false) := rfl
    simp only [e_non, e_bl, e_int, e_str, e_var, e_con, e_bin, e_neg, e_cmp, e_chain, e_and, e_or, e_not, e_ite, e_tup, e_lst, e_idx, e_slc, e_call, e_callK, e_blt, e_isk, e_caught, e_isx, e_op0, e_op1, e_callM, b_op1, b_callM, i_callK, i_op1, o_emp, o_revT, b_var, b_cmp, b_chain, b_and, b_or, b_not, b_yes, b_call, b_callK, b_blt, b_isx, b_isk, a_nil, a_cons, r_nil, r_cons, o_nopart, o_part, i_rng1, i_rng2, i_zip, i_enum, i_cap, i_var, i_blt, i_call, i_tup, i_lst, i_idx, i_slc, q_add, q_sub, q_neg, q_lt, q_le, q_gt, q_ge, q_eqI, q_neI, q_isNN, q_isNT, q_isNI, q_isNL, q_isBB, q_isNB, q_isNS, q_isnNN, q_isnNT, q_isnNI, q_isnNL, q_andT, q_andF, q_orT, q_orF, q_not, q_toB, q_part, q_fzI, q_fzB, q_fzS, q_fzN, q_fzT, q_fzL, q_fzW, q_fzSt, q_fzSc, s_nil, s_cons, k_nx, k_rt, k_bk, k_ct, s_asg, s_asgF, s_asgT, k_asg, s_par, s_expr, s_iff, s_retN, s_raise, s_brk, s_cont, s_pass, s_frz, k_frzO, k_frzV, s_retV, k_retO, k_retV, s_ret_non, s_ret_bl, s_ret_int, s_ret_str, s_ret_con, s_ret_bin, s_ret_neg, s_ret_cmp, s_ret_chain, s_ret_and, s_ret_or, s_ret_not, s_ret_ite, s_ret_tup, s_ret_lst, s_ret_idx, s_ret_slc, s_ret_call, s_ret_callK, s_ret_op0, s_ret_op1, s_ret_callM, s_ret_blt, s_ret_isx, s_ret_isk, s_ret_comp, s_app, k_runR, k_runN, for_nil, k_forN, k_forC, k_forB, k_forR, g_nm, g_tp, o_some, noErr_ret, Yes, retK, ret_bind, err_bind, bad_bind, draw_bind, getV, slOf, slO, setAll, parT, List.length_cons, List.length_nil, List.map_cons, List.map_nil, List.getElem?_cons_zero, List.getElem?_cons_succ, List.set_cons_zero, List.set_cons_succ, List.cons_append, List.nil_append, List.replicate_succ, List.replicate_zero, k, whB]
  | _ => cases h
theorem f7 {n : Nat} {d : D} (h : kd d = true) : callF tab WH (n + 1) 7 [d] = .ret (.bl (inD d)) := by
  show runD (callF tab WH n) WH d7 _ = _
  rw [run_eq rfl]
  simp only [d7, startE]
  cases d with
  | int i =>
    have k : bltT .isint [.int i] = .ret (.bl true) := rfl
    have k2 : bltT .isbool [.int i] = .ret (.bl false) := rfl
    simp only [e_non, e_bl, e_int, e_str, e_var, e_con, e_bin, e_neg, e_cmp, e_chain, e_and, e_or, e_not, e_ite, e_tup, e_lst, e_idx, e_slc, e_call, e_callK, e_blt, e_isk, e_caught, e_isx, e_op0, e_op1, e_callM, b_op1, b_callM, i_callK, i_op1, o_emp, o_revT, b_var, b_cmp, b_chain, b_and, b_or, b_not, b_yes, b_call, b_callK, b_blt, b_isx, b_isk, a_nil, a_cons, r_nil, r_cons, o_nopart, o_part, i_rng1, i_rng2, i_zip, i_enum, i_cap, i_var, i_blt, i_call, i_tup, i_lst, i_idx, i_slc, q_add, q_sub, q_neg, q_lt, q_le, q_gt, q_ge, q_eqI, q_neI, q_isNN, q_isNT, q_isNI, q_isNL, q_isBB, q_isNB, q_isNS, q_isnNN, q_isnNT, q_isnNI, q_isnNL, q_andT, q_andF, q_orT, q_orF, q_not, q_toB, q_part, q_fzI, q_fzB, q_fzS, q_fzN, q_fzT, q_fzL, q_fzW, q_fzSt, q_fzSc, s_nil, s_cons, k_nx, k_rt, k_bk, k_ct, s_asg, s_asgF, s_asgT, k_asg, s_par, s_expr, s_iff, s_retN, s_raise, s_brk, s_cont, s_pass, s_frz, k_frzO, k_frzV, s_retV, k_retO, k_retV, s_ret_non, s_ret_bl, s_ret_int, s_ret_str, s_ret_con, s_ret_bin, s_ret_neg, s_ret_cmp, s_ret_chain, s_ret_and, s_ret_or, s_ret_not, s_ret_ite, s_ret_tup, s_ret_lst, s_ret_idx, s_ret_slc, s_ret_call, s_ret_callK, s_ret_op0, s_ret_op1, s_ret_callM, s_ret_blt, s_ret_isx, s_ret_isk, s_ret_comp, s_app, k_runR, k_runN, for_nil, k_forN, k_forC, k_forB, k_forR, g_nm, g_tp, o_some, noErr_ret, Yes, retK, ret_bind, err_bind, bad_bind, draw_bind, getV, slOf, slO, setAll, parT, List.length_cons, List.length_nil, List.map_cons, List.map_nil, List.getElem?_cons_zero, List.getElem?_cons_succ, List.set_cons_zero, List.set_cons_succ, List.cons_append, List.nil_append, List.replicate_succ, List.replicate_zero, k, k2, Bool.not_false, inD]
  | bl b =>
    have k : bltT .isint [.bl b] = .ret (.bl true) := rfl
    have k2 : bltT .isbool [.bl b] = .ret (.bl true) := rfl
    simp only [e_non, e_bl, e_int, e_str, e_var, e_con, e_bin, e_neg, e_cmp, e_chain, e_and, e_or, e_not, e_ite, e_tup, e_lst, e_idx, e_slc, e_call, e_callK, e_blt, e_isk, e_caught, e_isx, e_op0, e_op1, e_callM, b_op1, b_callM, i_callK, i_op1, o_emp, o_revT, b_var, b_cmp, b_chain, b_and, b_or, b_not, b_yes, b_call, b_callK, b_blt, b_isx, b_isk, a_nil, a_cons, r_nil, r_cons, o_nopart, o_part, i_rng1, i_rng2, i_zip, i_enum, i_cap, i_var, i_blt, i_call, i_tup, i_lst, i_idx, i_slc, q_add, q_sub, q_neg, q_lt, q_le, q_gt, q_ge, q_eqI, q_neI, q_isNN, q_isNT, q_isNI, q_isNL, q_isBB, q_isNB, q_isNS, q_isnNN, q_isnNT, q_isnNI, q_isnNL, q_andT, q_andF, q_orT, q_orF, q_not, q_toB, q_part, q_fzI, q_fzB, q_fzS, q_fzN, q_fzT, q_fzL, q_fzW, q_fzSt, q_fzSc, s_nil, s_cons, k_nx, k_rt, k_bk, k_ct, s_asg, s_asgF, s_asgT, k_asg, s_par, s_expr, s_iff, s_retN, s_raise, s_brk, s_cont, s_pass, s_frz, k_frzO, k_frzV, s_retV, k_retO, k_retV, s_ret_non, s_ret_bl, s_ret_int, s_ret_str, s_ret_con, s_ret_bin, s_ret_neg, s_ret_cmp, s_ret_chain, s_ret_and, s_ret_or, s_ret_not, s_ret_ite, s_ret_tup, s_ret_lst, s_ret_idx, s_ret_slc, s_ret_call, s_ret_callK, s_ret_op0, s_ret_op1, s_ret_callM, s_ret_blt, s_ret_isx, s_ret_isk, s_ret_comp, s_app, k_runR, k_runN, for_nil, k_forN, k_forC, k_forB, k_forR, g_nm, g_tp, o_some, noErr_ret, Yes, retK, ret_bind, err_bind, bad_bind, draw_bind, getV, slOf, slO, setAll, parT, List.length_cons, List.length_nil, List.map_cons, List.map_nil, List.getElem?_cons_zero, List.getElem?_cons_succ, List.set_cons_zero, List.set_cons_succ, List.cons_append, List.nil_append, List.replicate_succ, List.replicate_zero, k, k2, Bool.not_true, inD]
  | non =>
    have k : bltT .isint [.non] = .ret (.bl false) := rfl
    simp only [e_non, e_bl, e_int, e_str, e_var, e_con, e_bin, e_neg, e_cmp, e_chain, e_and, e_or, e_not, e_ite, e_tup, e_lst, e_idx, e_slc, e_call, e_callK, e_blt, e_isk, e_caught, e_isx, e_op0, e_op1, e_callM, b_op1, b_callM, i_callK, i_op1, o_emp, o_revT, b_var, b_cmp, b_chain, b_and, b_or, b_not, b_yes, b_call, b_callK, b_blt, b_isx, b_isk, a_nil, a_cons, r_nil, r_cons, o_nopart, o_part, i_rng1, i_rng2, i_zip, i_enum, i_cap, i_var, i_blt, i_call, i_tup, i_lst, i_idx, i_slc, q_add, q_sub, q_neg, q_lt, q_le, q_gt, q_ge, q_eqI, q_neI, q_isNN, q_isNT, q_isNI, q_isNL, q_isBB, q_isNB, q_isNS, q_isnNN, q_isnNT, q_isnNI, q_isnNL, q_andT, q_andF, q_orT, q_orF, q_not, q_toB, q_part, q_fzI, q_fzB, q_fzS, q_fzN, q_fzT, q_fzL, q_fzW, q_fzSt, q_fzSc, s_nil, s_cons, k_nx, k_rt, k_bk, k_ct, s_asg, s_asgF, s_asgT, k_asg, s_par, s_expr, s_iff, s_retN, s_raise, s_brk, s_cont, s_pass, s_frz, k_frzO, k_frzV, s_retV, k_retO, k_retV, s_ret_non, s_ret_bl, s_ret_int, s_ret_str, s_ret_con, s_ret_bin, s_ret_neg, s_ret_cmp, s_ret_chain, s_ret_and, s_ret_or, s_ret_not, s_ret_ite, s_ret_tup, s_ret_lst, s_ret_idx, s_ret_slc, s_ret_call, s_ret_callK, s_ret_op0, s_ret_op1, s_ret_callM, s_ret_blt, s_ret_isx, s_ret_isk, s_ret_comp, s_app, k_runR, k_runN, for_nil, k_forN, k_forC, k_forB, k_forR, g_nm, g_tp, o_some, noErr_ret, Yes, retK, ret_bind, err_bind, bad_bind, draw_bind, getV, slOf, slO, setAll, parT, List.length_cons, List.length_nil, List.map_cons, List.map_nil, List.getElem?_cons_zero, List.getElem?_cons_succ, List.set_cons_zero, List.set_cons_succ, List.cons_append, List.nil_append, List.replicate_succ, List.replicate_zero, k, inD]
  | str x =>
    have k : bltT .isint [.str x] = .ret (.bl false) := rfl
    simp only [e_non, e_bl, e_int, e_str, e_var, e_con, e_bin, e_neg, e_cmp, e_chain, e_and, e_or, e_not, e_ite, e_tup, e_lst, e_idx, e_slc, e_call, e_callK, e_blt, e_isk, e_caught, e_isx, e_op0, e_op1, e_callM, b_op1, b_callM, i_callK, i_op1, o_emp, o_revT, b_var, b_cmp, b_chain, b_and, b_or, b_not, b_yes, b_call, b_callK, b_blt, b_isx, b_isk, a_nil, a_cons, r_nil, r_cons, o_nopart, o_part, i_rng1, i_rng2, i_zip, i_enum, i_cap, i_var, i_blt, i_call, i_tup, i_lst, i_idx, i_slc, q_add, q_sub, q_neg, q_lt, q_le, q_gt, q_ge, q_eqI, q_neI, q_isNN, q_isNT, q_isNI, q_isNL, q_isBB, q_isNB, q_isNS, q_isnNN, q_isnNT, q_isnNI, q_isnNL, q_andT, q_andF, q_orT, q_orF, q_not, q_toB, q_part, q_fzI, q_fzB, q_fzS, q_fzN, q_fzT, q_fzL, q_fzW, q_fzSt, q_fzSc, s_nil, s_cons, k_nx, k_rt, k_bk, k_ct, s_asg, s_asgF, s_asgT, k_asg, s_par, s_expr, s_iff, s_retN, s_raise, s_brk, s_cont, s_pass, s_frz, k_frzO, k_frzV, s_retV, k_retO, k_retV, s_ret_non, s_ret_bl, s_ret_int, s_ret_str, s_ret_con, s_ret_bin, s_ret_neg, s_ret_cmp, s_ret_chain, s_ret_and, s_ret_or, s_ret_not, s_ret_ite, s_ret_tup, s_ret_lst, s_ret_idx, s_ret_slc, s_ret_call, s_ret_callK, s_ret_op0, s_ret_op1, s_ret_callM, s_ret_blt, s_ret_isx, s_ret_isk, s_ret_comp, s_app, k_runR, k_runN, for_nil, k_forN, k_forC, k_forB, k_forR, g_nm, g_tp, o_some, noErr_ret, Yes, retK, ret_bind, err_bind, bad_bind, draw_bind, getV, slOf, slO, setAll, parT, List.length_cons, List.length_nil, List.map_cons, List.map_nil, List.getElem?_cons_zero, List.getElem?_cons_succ, List.set_cons_zero, List.set_cons_succ, List.cons_append, List.nil_append, List.replicate_succ, List.replicate_zero, k, inD]
  | tup x =>
    have k : bltT .isint [.tup x] = .ret (.bl false) := rfl
    simp only [e_non, e_bl, e_int, e_str, e_var, e_con, e_bin, e_neg, e_cmp, e_chain, e_and, e_or, e_not, e_ite, e_tup, e_lst, e_idx, e_slc, e_call, e_callK, e_blt, e_isk, e_caught, e_isx, e_op0, e_op1, e_callM, b_op1, b_callM, i_callK, i_op1, o_emp, o_revT, b_var, b_cmp, b_chain, b_and, b_or, b_not, b_yes, b_call, b_callK, b_blt, b_isx, b_isk, a_nil, a_cons, r_nil, r_cons, o_nopart, o_part, i_rng1, i_rng2, i_zip, i_enum, i_cap, i_var, i_blt, i_call, i_tup, i_lst, i_idx, i_slc, q_add, q_sub, q_neg, q_lt, q_le, q_gt, q_ge, q_eqI, q_neI, q_isNN, q_isNT, q_isNI, q_isNL, q_isBB, q_isNB, q_isNS, q_isnNN, q_isnNT, q_isnNI, q_isnNL, q_andT, q_andF, q_orT, q_orF, q_not, q_toB, q_part, q_fzI, q_fzB, q_fzS, q_fzN, q_fzT, q_fzL, q_fzW, q_fzSt, q_fzSc, s_nil, s_cons, k_nx, k_rt, k_bk, k_ct, s_asg, s_asgF, s_asgT, k_asg, s_par, s_expr, s_iff, s_retN, s_raise, s_brk, s_cont, s_pass, s_frz, k_frzO, k_frzV, s_retV, k_retO, k_retV, s_ret_non, s_ret_bl, s_ret_int, s_ret_str, s_ret_con, s_ret_bin, s_ret_neg, s_ret_cmp, s_ret_chain, s_ret_and, s_ret_or, s_ret_not, s_ret_ite, s_ret_tup, s_ret_lst, s_ret_idx, s_ret_slc, s_ret_call, s_ret_callK, s_ret_op0, s_ret_op1, s_ret_callM, s_ret_blt, s_ret_isx, s_ret_isk, s_ret_comp, s_app, k_runR, k_runN, for_nil, k_forN, k_forC, k_forB, k_forR, g_nm, g_tp, o_some, noErr_ret, Yes, retK, ret_bind, err_bind, bad_bind, draw_bind, getV, slOf, slO, setAll, parT, List.length_cons, List.length_nil, List.map_cons, List.map_nil, List.getElem?_cons_zero, List.getElem?_cons_succ, List.set_cons_zero, List.set_cons_succ, List.cons_append, List.nil_append, List.replicate_succ, List.replicate_zero, k, inD]
  | lst x =>
    have k : bltT .isint [.lst x] = .ret (.bl false) := rfl
    simp only [e_non, e_bl, e_int, e_str, e_var, e_con, e_bin, e_neg, e_cmp, e_chain, e_and, e_or, e_not, e_ite, e_tup, e_lst, e_idx, e_slc, e_call, e_callK, e_blt, e_isk, e_caught, e_isx, e_op0, e_op1, e_callM, b_op1, b_callM, i_callK, i_op1, o_emp, o_revT, b_var, b_cmp, b_chain, b_and, b_or, b_not, b_yes, b_call, b_callK, b_blt, b_isx, b_isk, a_nil, a_cons, r_nil, r_cons, o_nopart, o_part, i_rng1, i_rng2, i_zip, i_enum, i_cap, i_var, i_blt, i_call, i_tup, i_lst, i_idx, i_slc, q_add, q_sub, q_neg, q_lt, q_le, q_gt, q_ge, q_eqI, q_neI, q_isNN, q_isNT, q_isNI, q_isNL, q_isBB, q_isNB, q_isNS, q_isnNN, q_isnNT, q_isnNI, q_isnNL, q_andT, q_andF, q_orT, q_orF, q_not, q_toB, q_part, q_fzI, q_fzB, q_fzS, q_fzN, q_fzT, q_fzL, q_fzW, q_fzSt, q_fzSc, s_nil, s_cons, k_nx, k_rt, k_bk, k_ct, s_asg, s_asgF, s_asgT, k_asg, s_par, s_expr, s_iff, s_retN, s_raise, s_brk, s_cont, s_pass, s_frz, k_frzO, k_frzV, s_retV, k_retO, k_retV, s_ret_non, s_ret_bl, s_ret_int, s_ret_str, s_ret_con, s_ret_bin, s_ret_neg, s_ret_cmp, s_ret_chain, s_ret_and, s_ret_or, s_ret_not, s_ret_ite, s_ret_tup, s_ret_lst, s_ret_idx, s_ret_slc, s_ret_call, s_ret_callK, s_ret_op0, s_ret_op1, s_ret_callM, s_ret_blt, s_ret_isx, s_ret_isk, s_ret_comp, s_app, k_runR, k_runN, for_nil, k_forN, k_forC, k_forB, k_forR, g_nm, g_tp, o_some, noErr_ret, Yes, retK, ret_bind, err_bind, bad_bind, draw_bind, getV, slOf, slO, setAll, parT, List.length_cons, List.length_nil, List.map_cons, List.map_nil, List.getElem?_cons_zero, List.getElem?_cons_succ, List.set_cons_zero, List.set_cons_succ, List.cons_append, List.nil_append, List.replicate_succ, List.replicate_zero, k, inD]
  | _ => cases h
def inN (a b : Int) : D → Bool
  | .int i => decide (a ≤ i) && decide (i ≤ b)
  | _ => false
def toI : D → Int
  | .int i => i
  | _ => 0
theorem inN_int {a b : Int} {d : D} (h : inN a b d = true) : ∃ i, d = .int i ∧ a ≤ i ∧ i ≤ b := by
  cases d with
  | int i =>
    unfold inN at h
    rw [Bool.and_eq_true] at h
    exact ⟨i, rfl, of_decide_eq_true h.1, of_decide_eq_true h.2⟩
  | _ => cases h
theorem f2 {n : Nat} {d : D} {a b : Int} (h : kd d = true) (ha : -1000000000000000000 < a) (hb : b < 1000000000000000000) : callF tab WH (n + 2) 2 [d, .int a, .int b] = .ret (.bl (inN a b d)) := by
  show runD (callF tab WH (n + 1)) WH d2 _ = _
  rw [run_eq rfl]
  have e := f1 (n := n) h
  have fz := kd_fz h
  simp only [d2, startE]
  simp only [e_non, e_bl, e_int, e_str, e_var, e_con, e_bin, e_neg, e_cmp, e_chain, e_and, e_or, e_not, e_ite, e_tup, e_lst, e_idx, e_slc, e_call, e_callK, e_blt, e_isk, e_caught, e_isx, e_op0, e_op1, e_callM, b_op1, b_callM, i_callK, i_op1, o_emp, o_revT, b_var, b_cmp, b_chain, b_and, b_or, b_not, b_yes, b_call, b_callK, b_blt, b_isx, b_isk, a_nil, a_cons, r_nil, r_cons, o_nopart, o_part, i_rng1, i_rng2, i_zip, i_enum, i_cap, i_var, i_blt, i_call, i_tup, i_lst, i_idx, i_slc, q_add, q_sub, q_neg, q_lt, q_le, q_gt, q_ge, q_eqI, q_neI, q_isNN, q_isNT, q_isNI, q_isNL, q_isBB, q_isNB, q_isNS, q_isnNN, q_isnNT, q_isnNI, q_isnNL, q_andT, q_andF, q_orT, q_orF, q_not, q_toB, q_part, q_fzI, q_fzB, q_fzS, q_fzN, q_fzT, q_fzL, q_fzW, q_fzSt, q_fzSc, s_nil, s_cons, k_nx, k_rt, k_bk, k_ct, s_asg, s_asgF, s_asgT, k_asg, s_par, s_expr, s_iff, s_retN, s_raise, s_brk, s_cont, s_pass, s_frz, k_frzO, k_frzV, s_retV, k_retO, k_retV, s_ret_non, s_ret_bl, s_ret_int, s_ret_str, s_ret_con, s_ret_bin, s_ret_neg, s_ret_cmp, s_ret_chain, s_ret_and, s_ret_or, s_ret_not, s_ret_ite, s_ret_tup, s_ret_lst, s_ret_idx, s_ret_slc, s_ret_call, s_ret_callK, s_ret_op0, s_ret_op1, s_ret_callM, s_ret_blt, s_ret_isx, s_ret_isk, s_ret_comp, s_app, k_runR, k_runN, for_nil, k_forN, k_forC, k_forB, k_forR, g_nm, g_tp, o_some, noErr_ret, Yes, retK, ret_bind, err_bind, bad_bind, draw_bind, getV, slOf, slO, setAll, parT, List.length_cons, List.length_nil, List.map_cons, List.map_nil, List.getElem?_cons_zero, List.getElem?_cons_succ, List.set_cons_zero, List.set_cons_succ, List.cons_append, List.nil_append, List.replicate_succ, List.replicate_zero, fz, e]
  cases d with
  | int i =>
    unfold whB inN
    by_cases h1 : a ≤ i
    · by_cases h2 : i ≤ b
      · simp only [e_non, e_bl, e_int, e_str, e_var, e_con, e_bin, e_neg, e_cmp, e_chain, e_and, e_or, e_not, e_ite, e_tup, e_lst, e_idx, e_slc, e_call, e_callK, e_blt, e_isk, e_caught, e_isx, e_op0, e_op1, e_callM, b_op1, b_callM, i_callK, i_op1, o_emp, o_revT, b_var, b_cmp, b_chain, b_and, b_or, b_not, b_yes, b_call, b_callK, b_blt, b_isx, b_isk, a_nil, a_cons, r_nil, r_cons, o_nopart, o_part, i_rng1, i_rng2, i_zip, i_enum, i_cap, i_var, i_blt, i_call, i_tup, i_lst, i_idx, i_slc, q_add, q_sub, q_neg, q_lt, q_le, q_gt, q_ge, q_eqI, q_neI, q_isNN, q_isNT, q_isNI, q_isNL, q_isBB, q_isNB, q_isNS, q_isnNN, q_isnNT, q_isnNI, q_isnNL, q_andT, q_andF, q_orT, q_orF, q_not, q_toB, q_part, q_fzI, q_fzB, q_fzS, q_fzN, q_fzT, q_fzL, q_fzW, q_fzSt, q_fzSc, s_nil, s_cons, k_nx, k_rt, k_bk, k_ct, s_asg, s_asgF, s_asgT, k_asg, s_par, s_expr, s_iff, s_retN, s_raise, s_brk, s_cont, s_pass, s_frz, k_frzO, k_frzV, s_retV, k_retO, k_retV, s_ret_non, s_ret_bl, s_ret_int, s_ret_str, s_ret_con, s_ret_bin, s_ret_neg, s_ret_cmp, s_ret_chain, s_ret_and, s_ret_or, s_ret_not, s_ret_ite, s_ret_tup, s_ret_lst, s_ret_idx, s_ret_slc, s_ret_call, s_ret_callK, s_ret_op0, s_ret_op1, s_ret_callM, s_ret_blt, s_ret_isx, s_ret_isk, s_ret_comp, s_app, k_runR, k_runN, for_nil, k_forN, k_forC, k_forB, k_forR, g_nm, g_tp, o_some, noErr_ret, Yes, retK, ret_bind, err_bind, bad_bind, draw_bind, getV, slOf, slO, setAll, parT, List.length_cons, List.length_nil, List.map_cons, List.map_nil, List.getElem?_cons_zero, List.getElem?_cons_succ, List.set_cons_zero, List.set_cons_succ, List.cons_append, List.nil_append, List.replicate_succ, List.replicate_zero, h1, h2, show -1000000000000000000 < i by omega, show i < 1000000000000000000 by omega, decide_true, Bool.and_self, if_true]
      · by_cases h3 : i < 1000000000000000000
        · simp only [e_non, e_bl, e_int, e_str, e_var, e_con, e_bin, e_neg, e_cmp, e_chain, e_and, e_or, e_not, e_ite, e_tup, e_lst, e_idx, e_slc, e_call, e_callK, e_blt, e_isk, e_caught, e_isx, e_op0, e_op1, e_callM, b_op1, b_callM, i_callK, i_op1, o_emp, o_revT, b_var, b_cmp, b_chain, b_and, b_or, b_not, b_yes, b_call, b_callK, b_blt, b_isx, b_isk, a_nil, a_cons, r_nil, r_cons, o_nopart, o_part, i_rng1, i_rng2, i_zip, i_enum, i_cap, i_var, i_blt, i_call, i_tup, i_lst, i_idx, i_slc, q_add, q_sub, q_neg, q_lt, q_le, q_gt, q_ge, q_eqI, q_neI, q_isNN, q_isNT, q_isNI, q_isNL, q_isBB, q_isNB, q_isNS, q_isnNN, q_isnNT, q_isnNI, q_isnNL, q_andT, q_andF, q_orT, q_orF, q_not, q_toB, q_part, q_fzI, q_fzB, q_fzS, q_fzN, q_fzT, q_fzL, q_fzW, q_fzSt, q_fzSc, s_nil, s_cons, k_nx, k_rt, k_bk, k_ct, s_asg, s_asgF, s_asgT, k_asg, s_par, s_expr, s_iff, s_retN, s_raise, s_brk, s_cont, s_pass, s_frz, k_frzO, k_frzV, s_retV, k_retO, k_retV, s_ret_non, s_ret_bl, s_ret_int, s_ret_str, s_ret_con, s_ret_bin, s_ret_neg, s_ret_cmp, s_ret_chain, s_ret_and, s_ret_or, s_ret_not, s_ret_ite, s_ret_tup, s_ret_lst, s_ret_idx, s_ret_slc, s_ret_call, s_ret_callK, s_ret_op0, s_ret_op1, s_ret_callM, s_ret_blt, s_ret_isx, s_ret_isk, s_ret_comp, s_app, k_runR, k_runN, for_nil, k_forN, k_forC, k_forB, k_forR, g_nm, g_tp, o_some, noErr_ret, Yes, retK, ret_bind, err_bind, bad_bind, draw_bind, getV, slOf, slO, setAll, parT, List.length_cons, List.length_nil, List.map_cons, List.map_nil, List.getElem?_cons_zero, List.getElem?_cons_succ, List.set_cons_zero, List.set_cons_succ, List.cons_append, List.nil_append, List.replicate_succ, List.replicate_zero, h1, h2, h3, show -1000000000000000000 < i by omega, decide_true, decide_false, Bool.and_self, Bool.and_false, if_true]
        · simp only [e_non, e_bl, e_int, e_str, e_var, e_con, e_bin, e_neg, e_cmp, e_chain, e_and, e_or, e_not, e_ite, e_tup, e_lst, e_idx, e_slc, e_call, e_callK, e_blt, e_isk, e_caught, e_isx, e_op0, e_op1, e_callM, b_op1, b_callM, i_callK, i_op1, o_emp, o_revT, b_var, b_cmp, b_chain, b_and, b_or, b_not, b_yes, b_call, b_callK, b_blt, b_isx, b_isk, a_nil, a_cons, r_nil, r_cons, o_nopart, o_part, i_rng1, i_rng2, i_zip, i_enum, i_cap, i_var, i_blt, i_call, i_tup, i_lst, i_idx, i_slc, q_add, q_sub, q_neg, q_lt, q_le, q_gt, q_ge, q_eqI, q_neI, q_isNN, q_isNT, q_isNI, q_isNL, q_isBB, q_isNB, q_isNS, q_isnNN, q_isnNT, q_isnNI, q_isnNL, q_andT, q_andF, q_orT, q_orF, q_not, q_toB, q_part, q_fzI, q_fzB, q_fzS, q_fzN, q_fzT, q_fzL, q_fzW, q_fzSt, q_fzSc, s_nil, s_cons, k_nx, k_rt, k_bk, k_ct, s_asg, s_asgF, s_asgT, k_asg, s_par, s_expr, s_iff, s_retN, s_raise, s_brk, s_cont, s_pass, s_frz, k_frzO, k_frzV, s_retV, k_retO, k_retV, s_ret_non, s_ret_bl, s_ret_int, s_ret_str, s_ret_con, s_ret_bin, s_ret_neg, s_ret_cmp, s_ret_chain, s_ret_and, s_ret_or, s_ret_not, s_ret_ite, s_ret_tup, s_ret_lst, s_ret_idx, s_ret_slc, s_ret_call, s_ret_callK, s_ret_op0, s_ret_op1, s_ret_callM, s_ret_blt, s_ret_isx, s_ret_isk, s_ret_comp, s_app, k_runR, k_runN, for_nil, k_forN, k_forC, k_forB, k_forR, g_nm, g_tp, o_some, noErr_ret, Yes, retK, ret_bind, err_bind, bad_bind, draw_bind, getV, slOf, slO, setAll, parT, List.length_cons, List.length_nil, List.map_cons, List.map_nil, List.getElem?_cons_zero, List.getElem?_cons_succ, List.set_cons_zero, List.set_cons_succ, List.cons_append, List.nil_append, List.replicate_succ, List.replicate_zero, h1, h2, h3, decide_true, decide_false, Bool.and_false, if_true]
    · by_cases h3 : -1000000000000000000 < i
      · by_cases h4 : i < 1000000000000000000
        · simp only [e_non, e_bl, e_int, e_str, e_var, e_con, e_bin, e_neg, e_cmp, e_chain, e_and, e_or, e_not, e_ite, e_tup, e_lst, e_idx, e_slc, e_call, e_callK, e_blt, e_isk, e_caught, e_isx, e_op0, e_op1, e_callM, b_op1, b_callM, i_callK, i_op1, o_emp, o_revT, b_var, b_cmp, b_chain, b_and, b_or, b_not, b_yes, b_call, b_callK, b_blt, b_isx, b_isk, a_nil, a_cons, r_nil, r_cons, o_nopart, o_part, i_rng1, i_rng2, i_zip, i_enum, i_cap, i_var, i_blt, i_call, i_tup, i_lst, i_idx, i_slc, q_add, q_sub, q_neg, q_lt, q_le, q_gt, q_ge, q_eqI, q_neI, q_isNN, q_isNT, q_isNI, q_isNL, q_isBB, q_isNB, q_isNS, q_isnNN, q_isnNT, q_isnNI, q_isnNL, q_andT, q_andF, q_orT, q_orF, q_not, q_toB, q_part, q_fzI, q_fzB, q_fzS, q_fzN, q_fzT, q_fzL, q_fzW, q_fzSt, q_fzSc, s_nil, s_cons, k_nx, k_rt, k_bk, k_ct, s_asg, s_asgF, s_asgT, k_asg, s_par, s_expr, s_iff, s_retN, s_raise, s_brk, s_cont, s_pass, s_frz, k_frzO, k_frzV, s_retV, k_retO, k_retV, s_ret_non, s_ret_bl, s_ret_int, s_ret_str, s_ret_con, s_ret_bin, s_ret_neg, s_ret_cmp, s_ret_chain, s_ret_and, s_ret_or, s_ret_not, s_ret_ite, s_ret_tup, s_ret_lst, s_ret_idx, s_ret_slc, s_ret_call, s_ret_callK, s_ret_op0, s_ret_op1, s_ret_callM, s_ret_blt, s_ret_isx, s_ret_isk, s_ret_comp, s_app, k_runR, k_runN, for_nil, k_forN, k_forC, k_forB, k_forR, g_nm, g_tp, o_some, noErr_ret, Yes, retK, ret_bind, err_bind, bad_bind, draw_bind, getV, slOf, slO, setAll, parT, List.length_cons, List.length_nil, List.map_cons, List.map_nil, List.getElem?_cons_zero, List.getElem?_cons_succ, List.set_cons_zero, List.set_cons_succ, List.cons_append, List.nil_append, List.replicate_succ, List.replicate_zero, h1, h3, h4, decide_true, decide_false, Bool.and_self, Bool.false_and, Bool.false_eq_true, if_false]
        · simp only [e_non, e_bl, e_int, e_str, e_var, e_con, e_bin, e_neg, e_cmp, e_chain, e_and, e_or, e_not, e_ite, e_tup, e_lst, e_idx, e_slc, e_call, e_callK, e_blt, e_isk, e_caught, e_isx, e_op0, e_op1, e_callM, b_op1, b_callM, i_callK, i_op1, o_emp, o_revT, b_var, b_cmp, b_chain, b_and, b_or, b_not, b_yes, b_call, b_callK, b_blt, b_isx, b_isk, a_nil, a_cons, r_nil, r_cons, o_nopart, o_part, i_rng1, i_rng2, i_zip, i_enum, i_cap, i_var, i_blt, i_call, i_tup, i_lst, i_idx, i_slc, q_add, q_sub, q_neg, q_lt, q_le, q_gt, q_ge, q_eqI, q_neI, q_isNN, q_isNT, q_isNI, q_isNL, q_isBB, q_isNB, q_isNS, q_isnNN, q_isnNT, q_isnNI, q_isnNL, q_andT, q_andF, q_orT, q_orF, q_not, q_toB, q_part, q_fzI, q_fzB, q_fzS, q_fzN, q_fzT, q_fzL, q_fzW, q_fzSt, q_fzSc, s_nil, s_cons, k_nx, k_rt, k_bk, k_ct, s_asg, s_asgF, s_asgT, k_asg, s_par, s_expr, s_iff, s_retN, s_raise, s_brk, s_cont, s_pass, s_frz, k_frzO, k_frzV, s_retV, k_retO, k_retV, s_ret_non, s_ret_bl, s_ret_int, s_ret_str, s_ret_con, s_ret_bin, s_ret_neg, s_ret_cmp, s_ret_chain, s_ret_and, s_ret_or, s_ret_not, s_ret_ite, s_ret_tup, s_ret_lst, s_ret_idx, s_ret_slc, s_ret_call, s_ret_callK, s_ret_op0, s_ret_op1, s_ret_callM, s_ret_blt, s_ret_isx, s_ret_isk, s_ret_comp, s_app, k_runR, k_runN, for_nil, k_forN, k_forC, k_forB, k_forR, g_nm, g_tp, o_some, noErr_ret, Yes, retK, ret_bind, err_bind, bad_bind, draw_bind, getV, slOf, slO, setAll, parT, List.length_cons, List.length_nil, List.map_cons, List.map_nil, List.getElem?_cons_zero, List.getElem?_cons_succ, List.set_cons_zero, List.set_cons_succ, List.cons_append, List.nil_append, List.replicate_succ, List.replicate_zero, h1, h3, h4, decide_true, decide_false, Bool.and_false, Bool.false_and]
      · simp only [e_non, e_bl, e_int, e_str, e_var, e_con, e_bin, e_neg, e_cmp, e_chain, e_and, e_or, e_not, e_ite, e_tup, e_lst, e_idx, e_slc, e_call, e_callK, e_blt, e_isk, e_caught, e_isx, e_op0, e_op1, e_callM, b_op1, b_callM, i_callK, i_op1, o_emp, o_revT, b_var, b_cmp, b_chain, b_and, b_or, b_not, b_yes, b_call, b_callK, b_blt, b_isx, b_isk, a_nil, a_cons, r_nil, r_cons, o_nopart, o_part, i_rng1, i_rng2, i_zip, i_enum, i_cap, i_var, i_blt, i_call, i_tup, i_lst, i_idx, i_slc, q_add, q_sub, q_neg, q_lt, q_le, q_gt, q_ge, q_eqI, q_neI, q_isNN, q_isNT, q_isNI, q_isNL, q_isBB, q_isNB, q_isNS, q_isnNN, q_isnNT, q_isnNI, q_isnNL, q_andT, q_andF, q_orT, q_orF, q_not, q_toB, q_part, q_fzI, q_fzB, q_fzS, q_fzN, q_fzT, q_fzL, q_fzW, q_fzSt, q_fzSc, s_nil, s_cons, k_nx, k_rt, k_bk, k_ct, s_asg, s_asgF, s_asgT, k_asg, s_par, s_expr, s_iff, s_retN, s_raise, s_brk, s_cont, s_pass, s_frz, k_frzO, k_frzV, s_retV, k_retO, k_retV, s_ret_non, s_ret_bl, s_ret_int, s_ret_str, s_ret_con, s_ret_bin, s_ret_neg, s_ret_cmp, s_ret_chain, s_ret_and, s_ret_or, s_ret_not, s_ret_ite, s_ret_tup, s_ret_lst, s_ret_idx, s_ret_slc, s_ret_call, s_ret_callK, s_ret_op0, s_ret_op1, s_ret_callM, s_ret_blt, s_ret_isx, s_ret_isk, s_ret_comp, s_app, k_runR, k_runN, for_nil, k_forN, k_forC, k_forB, k_forR, g_nm, g_tp, o_some, noErr_ret, Yes, retK, ret_bind, err_bind, bad_bind, draw_bind, getV, slOf, slO, setAll, parT, List.length_cons, List.length_nil, List.map_cons, List.map_nil, List.getElem?_cons_zero, List.getElem?_cons_succ, List.set_cons_zero, List.set_cons_succ, List.cons_append, List.nil_append, List.replicate_succ, List.replicate_zero, h1, h3, decide_false, Bool.false_and]
  | bl b => simp only [whB, inN, e_non, e_bl, e_int, e_str, e_var, e_con, e_bin, e_neg, e_cmp, e_chain, e_and, e_or, e_not, e_ite, e_tup, e_lst, e_idx, e_slc, e_call, e_callK, e_blt, e_isk, e_caught, e_isx, e_op0, e_op1, e_callM, b_op1, b_callM, i_callK, i_op1, o_emp, o_revT, b_var, b_cmp, b_chain, b_and, b_or, b_not, b_yes, b_call, b_callK, b_blt, b_isx, b_isk, a_nil, a_cons, r_nil, r_cons, o_nopart, o_part, i_rng1, i_rng2, i_zip, i_enum, i_cap, i_var, i_blt, i_call, i_tup, i_lst, i_idx, i_slc, q_add, q_sub, q_neg, q_lt, q_le, q_gt, q_ge, q_eqI, q_neI, q_isNN, q_isNT, q_isNI, q_isNL, q_isBB, q_isNB, q_isNS, q_isnNN, q_isnNT, q_isnNI, q_isnNL, q_andT, q_andF, q_orT, q_orF, q_not, q_toB, q_part, q_fzI, q_fzB, q_fzS, q_fzN, q_fzT, q_fzL, q_fzW, q_fzSt, q_fzSc, s_nil, s_cons, k_nx, k_rt, k_bk, k_ct, s_asg, s_asgF, s_asgT, k_asg, s_par, s_expr, s_iff, s_retN, s_raise, s_brk, s_cont, s_pass, s_frz, k_frzO, k_frzV, s_retV, k_retO, k_retV, s_ret_non, s_ret_bl, s_ret_int, s_ret_str, s_ret_con, s_ret_bin, s_ret_neg, s_ret_cmp, s_ret_chain, s_ret_and, s_ret_or, s_ret_not, s_ret_ite, s_ret_tup, s_ret_lst, s_ret_idx, s_ret_slc, s_ret_call, s_ret_callK, s_ret_op0, s_ret_op1, s_ret_callM, s_ret_blt, s_ret_isx, s_ret_isk, s_ret_comp, s_app, k_runR, k_runN, for_nil, k_forN, k_forC, k_forB, k_forR, g_nm, g_tp, o_some, noErr_ret, Yes, retK, ret_bind, err_bind, bad_bind, draw_bind, getV, slOf, slO, setAll, parT, List.length_cons, List.length_nil, List.map_cons, List.map_nil, List.getElem?_cons_zero, List.getElem?_cons_succ, List.set_cons_zero, List.set_cons_succ, List.cons_append, List.nil_append, List.replicate_succ, List.replicate_zero]
  | non => simp only [whB, inN, e_non, e_bl, e_int, e_str, e_var, e_con, e_bin, e_neg, e_cmp, e_chain, e_and, e_or, e_not, e_ite, e_tup, e_lst, e_idx, e_slc, e_call, e_callK, e_blt, e_isk, e_caught, e_isx, e_op0, e_op1, e_callM, b_op1, b_callM, i_callK, i_op1, o_emp, o_revT, b_var, b_cmp, b_chain, b_and, b_or, b_not, b_yes, b_call, b_callK, b_blt, b_isx, b_isk, a_nil, a_cons, r_nil, r_cons, o_nopart, o_part, i_rng1, i_rng2, i_zip, i_enum, i_cap, i_var, i_blt, i_call, i_tup, i_lst, i_idx, i_slc, q_add, q_sub, q_neg, q_lt, q_le, q_gt, q_ge, q_eqI, q_neI, q_isNN, q_isNT, q_isNI, q_isNL, q_isBB, q_isNB, q_isNS, q_isnNN, q_isnNT, q_isnNI, q_isnNL, q_andT, q_andF, q_orT, q_orF, q_not, q_toB, q_part, q_fzI, q_fzB, q_fzS, q_fzN, q_fzT, q_fzL, q_fzW, q_fzSt, q_fzSc, s_nil, s_cons, k_nx, k_rt, k_bk, k_ct, s_asg, s_asgF, s_asgT, k_asg, s_par, s_expr, s_iff, s_retN, s_raise, s_brk, s_cont, s_pass, s_frz, k_frzO, k_frzV, s_retV, k_retO, k_retV, s_ret_non, s_ret_bl, s_ret_int, s_ret_str, s_ret_con, s_ret_bin, s_ret_neg, s_ret_cmp, s_ret_chain, s_ret_and, s_ret_or, s_ret_not, s_ret_ite, s_ret_tup, s_ret_lst, s_ret_idx, s_ret_slc, s_ret_call, s_ret_callK, s_ret_op0, s_ret_op1, s_ret_callM, s_ret_blt, s_ret_isx, s_ret_isk, s_ret_comp, s_app, k_runR, k_runN, for_nil, k_forN, k_forC, k_forB, k_forR, g_nm, g_tp, o_some, noErr_ret, Yes, retK, ret_bind, err_bind, bad_bind, draw_bind, getV, slOf, slO, setAll, parT, List.length_cons, List.length_nil, List.map_cons, List.map_nil, List.getElem?_cons_zero, List.getElem?_cons_succ, List.set_cons_zero, List.set_cons_succ, List.cons_append, List.nil_append, List.replicate_succ, List.replicate_zero]
  | str x => simp only [whB, inN, e_non, e_bl, e_int, e_str, e_var, e_con, e_bin, e_neg, e_cmp, e_chain, e_and, e_or, e_not, e_ite, e_tup, e_lst, e_idx, e_slc, e_call, e_callK, e_blt, e_isk, e_caught, e_isx, e_op0, e_op1, e_callM, b_op1, b_callM, i_callK, i_op1, o_emp, o_revT, b_var, b_cmp, b_chain, b_and, b_or, b_not, b_yes, b_call, b_callK, b_blt, b_isx, b_isk, a_nil, a_cons, r_nil, r_cons, o_nopart, o_part, i_rng1, i_rng2, i_zip, i_enum, i_cap, i_var, i_blt, i_call, i_tup, i_lst, i_idx, i_slc, q_add, q_sub, q_neg, q_lt, q_le, q_gt, q_ge, q_eqI, q_neI, q_isNN, q_isNT, q_isNI, q_isNL, q_isBB, q_isNB, q_isNS, q_isnNN, q_isnNT, q_isnNI, q_isnNL, q_andT, q_andF, q_orT, q_orF, q_not, q_toB, q_part, q_fzI, q_fzB, q_fzS, q_fzN, q_fzT, q_fzL, q_fzW, q_fzSt, q_fzSc, s_nil, s_cons, k_nx, k_rt, k_bk, k_ct, s_asg, s_asgF, s_asgT, k_asg, s_par, s_expr, s_iff, s_retN, s_raise, s_brk, s_cont, s_pass, s_frz, k_frzO, k_frzV, s_retV, k_retO, k_retV, s_ret_non, s_ret_bl, s_ret_int, s_ret_str, s_ret_con, s_ret_bin, s_ret_neg, s_ret_cmp, s_ret_chain, s_ret_and, s_ret_or, s_ret_not, s_ret_ite, s_ret_tup, s_ret_lst, s_ret_idx, s_ret_slc, s_ret_call, s_ret_callK, s_ret_op0, s_ret_op1, s_ret_callM, s_ret_blt, s_ret_isx, s_ret_isk, s_ret_comp, s_app, k_runR, k_runN, for_nil, k_forN, k_forC, k_forB, k_forR, g_nm, g_tp, o_some, noErr_ret, Yes, retK, ret_bind, err_bind, bad_bind, draw_bind, getV, slOf, slO, setAll, parT, List.length_cons, List.length_nil, List.map_cons, List.map_nil, List.getElem?_cons_zero, List.getElem?_cons_succ, List.set_cons_zero, List.set_cons_succ, List.cons_append, List.nil_append, List.replicate_succ, List.replicate_zero]
  | tup x => simp only [whB, inN, e_non, e_bl, e_int, e_str, e_var, e_con, e_bin, e_neg, e_cmp, e_chain, e_and, e_or, e_not, e_ite, e_tup, e_lst, e_idx, e_slc, e_call, e_callK, e_blt, e_isk, e_caught, e_isx, e_op0, e_op1, e_callM, b_op1, b_callM, i_callK, i_op1, o_emp, o_revT, b_var, b_cmp, b_chain, b_and, b_or, b_not, b_yes, b_call, b_callK, b_blt, b_isx, b_isk, a_nil, a_cons, r_nil, r_cons, o_nopart, o_part, i_rng1, i_rng2, i_zip, i_enum, i_cap, i_var, i_blt, i_call, i_tup, i_lst, i_idx, i_slc, q_add, q_sub, q_neg, q_lt, q_le, q_gt, q_ge, q_eqI, q_neI, q_isNN, q_isNT, q_isNI, q_isNL, q_isBB, q_isNB, q_isNS, q_isnNN, q_isnNT, q_isnNI, q_isnNL, q_andT, q_andF, q_orT, q_orF, q_not, q_toB, q_part, q_fzI, q_fzB, q_fzS, q_fzN, q_fzT, q_fzL, q_fzW, q_fzSt, q_fzSc, s_nil, s_cons, k_nx, k_rt, k_bk, k_ct, s_asg, s_asgF, s_asgT, k_asg, s_par, s_expr, s_iff, s_retN, s_raise, s_brk, s_cont, s_pass, s_frz, k_frzO, k_frzV, s_retV, k_retO, k_retV, s_ret_non, s_ret_bl, s_ret_int, s_ret_str, s_ret_con, s_ret_bin, s_ret_neg, s_ret_cmp, s_ret_chain, s_ret_and, s_ret_or, s_ret_not, s_ret_ite, s_ret_tup, s_ret_lst, s_ret_idx, s_ret_slc, s_ret_call, s_ret_callK, s_ret_op0, s_ret_op1, s_ret_callM, s_ret_blt, s_ret_isx, s_ret_isk, s_ret_comp, s_app, k_runR, k_runN, for_nil, k_forN, k_forC, k_forB, k_forR, g_nm, g_tp, o_some, noErr_ret, Yes, retK, ret_bind, err_bind, bad_bind, draw_bind, getV, slOf, slO, setAll, parT, List.length_cons, List.length_nil, List.map_cons, List.map_nil, List.getElem?_cons_zero, List.getElem?_cons_succ, List.set_cons_zero, List.set_cons_succ, List.cons_append, List.nil_append, List.replicate_succ, List.replicate_zero]
  | lst x => simp only [whB, inN, e_non, e_bl, e_int, e_str, e_var, e_con, e_bin, e_neg, e_cmp, e_chain, e_and, e_or, e_not, e_ite, e_tup, e_lst, e_idx, e_slc, e_call, e_callK, e_blt, e_isk, e_caught, e_isx, e_op0, e_op1, e_callM, b_op1, b_callM, i_callK, i_op1, o_emp, o_revT, b_var, b_cmp, b_chain, b_and, b_or, b_not, b_yes, b_call, b_callK, b_blt, b_isx, b_isk, a_nil, a_cons, r_nil, r_cons, o_nopart, o_part, i_rng1, i_rng2, i_zip, i_enum, i_cap, i_var, i_blt, i_call, i_tup, i_lst, i_idx, i_slc, q_add, q_sub, q_neg, q_lt, q_le, q_gt, q_ge, q_eqI, q_neI, q_isNN, q_isNT, q_isNI, q_isNL, q_isBB, q_isNB, q_isNS, q_isnNN, q_isnNT, q_isnNI, q_isnNL, q_andT, q_andF, q_orT, q_orF, q_not, q_toB, q_part, q_fzI, q_fzB, q_fzS, q_fzN, q_fzT, q_fzL, q_fzW, q_fzSt, q_fzSc, s_nil, s_cons, k_nx, k_rt, k_bk, k_ct, s_asg, s_asgF, s_asgT, k_asg, s_par, s_expr, s_iff, s_retN, s_raise, s_brk, s_cont, s_pass, s_frz, k_frzO, k_frzV, s_retV, k_retO, k_retV, s_ret_non, s_ret_bl, s_ret_int, s_ret_str, s_ret_con, s_ret_bin, s_ret_neg, s_ret_cmp, s_ret_chain, s_ret_and, s_ret_or, s_ret_not, s_ret_ite, s_ret_tup, s_ret_lst, s_ret_idx, s_ret_slc, s_ret_call, s_ret_callK, s_ret_op0, s_ret_op1, s_ret_callM, s_ret_blt, s_ret_isx, s_ret_isk, s_ret_comp, s_app, k_runR, k_runN, for_nil, k_forN, k_forC, k_forB, k_forR, g_nm, g_tp, o_some, noErr_ret, Yes, retK, ret_bind, err_bind, bad_bind, draw_bind, getV, slOf, slO, setAll, parT, List.length_cons, List.length_nil, List.map_cons, List.map_nil, List.getElem?_cons_zero, List.getElem?_cons_succ, List.set_cons_zero, List.set_cons_succ, List.cons_append, List.nil_append, List.replicate_succ, List.replicate_zero]
  | _ => cases h
/-- from 0 on, below a number -/
def inW (m : Int) : D → Bool
  | .int i => decide (0 ≤ i) && decide (i < m)
  | _ => false
theorem inW_int {m : Int} {d : D} (h : inW m d = true) : ∃ i, d = .int i ∧ 0 ≤ i ∧ i < m := by
  cases d with
  | int i =>
    unfold inW at h
    rw [Bool.and_eq_true] at h
    exact ⟨i, rfl, of_decide_eq_true h.1, of_decide_eq_true h.2⟩
  | _ => cases h
theorem f8 {n : Nat} {d : D} {m : Int} (h : kd d = true) : callF tab WH (n + 2) 8 [d, .int m] = .ret (.bl (inW m d)) := by
  show runD (callF tab WH (n + 1)) WH d8 _ = _
  rw [run_eq rfl]
  have e := f7 (n := n) h
  have fz := kd_fz h
  simp only [d8, startE]
  simp only [e_non, e_bl, e_int, e_str, e_var, e_con, e_bin, e_neg, e_cmp, e_chain, e_and, e_or, e_not, e_ite, e_tup, e_lst, e_idx, e_slc, e_call, e_callK, e_blt, e_isk, e_caught, e_isx, e_op0, e_op1, e_callM, b_op1, b_callM, i_callK, i_op1, o_emp, o_revT, b_var, b_cmp, b_chain, b_and, b_or, b_not, b_yes, b_call, b_callK, b_blt, b_isx, b_isk, a_nil, a_cons, r_nil, r_cons, o_nopart, o_part, i_rng1, i_rng2, i_zip, i_enum, i_cap, i_var, i_blt, i_call, i_tup, i_lst, i_idx, i_slc, q_add, q_sub, q_neg, q_lt, q_le, q_gt, q_ge, q_eqI, q_neI, q_isNN, q_isNT, q_isNI, q_isNL, q_isBB, q_isNB, q_isNS, q_isnNN, q_isnNT, q_isnNI, q_isnNL, q_andT, q_andF, q_orT, q_orF, q_not, q_toB, q_part, q_fzI, q_fzB, q_fzS, q_fzN, q_fzT, q_fzL, q_fzW, q_fzSt, q_fzSc, s_nil, s_cons, k_nx, k_rt, k_bk, k_ct, s_asg, s_asgF, s_asgT, k_asg, s_par, s_expr, s_iff, s_retN, s_raise, s_brk, s_cont, s_pass, s_frz, k_frzO, k_frzV, s_retV, k_retO, k_retV, s_ret_non, s_ret_bl, s_ret_int, s_ret_str, s_ret_con, s_ret_bin, s_ret_neg, s_ret_cmp, s_ret_chain, s_ret_and, s_ret_or, s_ret_not, s_ret_ite, s_ret_tup, s_ret_lst, s_ret_idx, s_ret_slc, s_ret_call, s_ret_callK, s_ret_op0, s_ret_op1, s_ret_callM, s_ret_blt, s_ret_isx, s_ret_isk, s_ret_comp, s_app, k_runR, k_runN, for_nil, k_forN, k_forC, k_forB, k_forR, g_nm, g_tp, o_some, noErr_ret, Yes, retK, ret_bind, err_bind, bad_bind, draw_bind, getV, slOf, slO, setAll, parT, List.length_cons, List.length_nil, List.map_cons, List.map_nil, List.getElem?_cons_zero, List.getElem?_cons_succ, List.set_cons_zero, List.set_cons_succ, List.cons_append, List.nil_append, List.replicate_succ, List.replicate_zero, fz, e]
  cases d with
  | int i =>
    unfold inD inW
    by_cases h1 : 0 ≤ i
    · simp only [e_non, e_bl, e_int, e_str, e_var, e_con, e_bin, e_neg, e_cmp, e_chain, e_and, e_or, e_not, e_ite, e_tup, e_lst, e_idx, e_slc, e_call, e_callK, e_blt, e_isk, e_caught, e_isx, e_op0, e_op1, e_callM, b_op1, b_callM, i_callK, i_op1, o_emp, o_revT, b_var, b_cmp, b_chain, b_and, b_or, b_not, b_yes, b_call, b_callK, b_blt, b_isx, b_isk, a_nil, a_cons, r_nil, r_cons, o_nopart, o_part, i_rng1, i_rng2, i_zip, i_enum, i_cap, i_var, i_blt, i_call, i_tup, i_lst, i_idx, i_slc, q_add, q_sub, q_neg, q_lt, q_le, q_gt, q_ge, q_eqI, q_neI, q_isNN, q_isNT, q_isNI, q_isNL, q_isBB, q_isNB, q_isNS, q_isnNN, q_isnNT, q_isnNI, q_isnNL, q_andT, q_andF, q_orT, q_orF, q_not, q_toB, q_part, q_fzI, q_fzB, q_fzS, q_fzN, q_fzT, q_fzL, q_fzW, q_fzSt, q_fzSc, s_nil, s_cons, k_nx, k_rt, k_bk, k_ct, s_asg, s_asgF, s_asgT, k_asg, s_par, s_expr, s_iff, s_retN, s_raise, s_brk, s_cont, s_pass, s_frz, k_frzO, k_frzV, s_retV, k_retO, k_retV, s_ret_non, s_ret_bl, s_ret_int, s_ret_str, s_ret_con, s_ret_bin, s_ret_neg, s_ret_cmp, s_ret_chain, s_ret_and, s_ret_or, s_ret_not, s_ret_ite, s_ret_tup, s_ret_lst, s_ret_idx, s_ret_slc, s_ret_call, s_ret_callK, s_ret_op0, s_ret_op1, s_ret_callM, s_ret_blt, s_ret_isx, s_ret_isk, s_ret_comp, s_app, k_runR, k_runN, for_nil, k_forN, k_forC, k_forB, k_forR, g_nm, g_tp, o_some, noErr_ret, Yes, retK, ret_bind, err_bind, bad_bind, draw_bind, getV, slOf, slO, setAll, parT, List.length_cons, List.length_nil, List.map_cons, List.map_nil, List.getElem?_cons_zero, List.getElem?_cons_succ, List.set_cons_zero, List.set_cons_succ, List.cons_append, List.nil_append, List.replicate_succ, List.replicate_zero, h1, decide_true, if_true, Bool.true_and]
    · simp only [e_non, e_bl, e_int, e_str, e_var, e_con, e_bin, e_neg, e_cmp, e_chain, e_and, e_or, e_not, e_ite, e_tup, e_lst, e_idx, e_slc, e_call, e_callK, e_blt, e_isk, e_caught, e_isx, e_op0, e_op1, e_callM, b_op1, b_callM, i_callK, i_op1, o_emp, o_revT, b_var, b_cmp, b_chain, b_and, b_or, b_not, b_yes, b_call, b_callK, b_blt, b_isx, b_isk, a_nil, a_cons, r_nil, r_cons, o_nopart, o_part, i_rng1, i_rng2, i_zip, i_enum, i_cap, i_var, i_blt, i_call, i_tup, i_lst, i_idx, i_slc, q_add, q_sub, q_neg, q_lt, q_le, q_gt, q_ge, q_eqI, q_neI, q_isNN, q_isNT, q_isNI, q_isNL, q_isBB, q_isNB, q_isNS, q_isnNN, q_isnNT, q_isnNI, q_isnNL, q_andT, q_andF, q_orT, q_orF, q_not, q_toB, q_part, q_fzI, q_fzB, q_fzS, q_fzN, q_fzT, q_fzL, q_fzW, q_fzSt, q_fzSc, s_nil, s_cons, k_nx, k_rt, k_bk, k_ct, s_asg, s_asgF, s_asgT, k_asg, s_par, s_expr, s_iff, s_retN, s_raise, s_brk, s_cont, s_pass, s_frz, k_frzO, k_frzV, s_retV, k_retO, k_retV, s_ret_non, s_ret_bl, s_ret_int, s_ret_str, s_ret_con, s_ret_bin, s_ret_neg, s_ret_cmp, s_ret_chain, s_ret_and, s_ret_or, s_ret_not, s_ret_ite, s_ret_tup, s_ret_lst, s_ret_idx, s_ret_slc, s_ret_call, s_ret_callK, s_ret_op0, s_ret_op1, s_ret_callM, s_ret_blt, s_ret_isx, s_ret_isk, s_ret_comp, s_app, k_runR, k_runN, for_nil, k_forN, k_forC, k_forB, k_forR, g_nm, g_tp, o_some, noErr_ret, Yes, retK, ret_bind, err_bind, bad_bind, draw_bind, getV, slOf, slO, setAll, parT, List.length_cons, List.length_nil, List.map_cons, List.map_nil, List.getElem?_cons_zero, List.getElem?_cons_succ, List.set_cons_zero, List.set_cons_succ, List.cons_append, List.nil_append, List.replicate_succ, List.replicate_zero, h1, decide_false, Bool.false_eq_true, if_false, Bool.false_and]
  | bl b => simp only [inD, inW, e_non, e_bl, e_int, e_str, e_var, e_con, e_bin, e_neg, e_cmp, e_chain, e_and, e_or, e_not, e_ite, e_tup, e_lst, e_idx, e_slc, e_call, e_callK, e_blt, e_isk, e_caught, e_isx, e_op0, e_op1, e_callM, b_op1, b_callM, i_callK, i_op1, o_emp, o_revT, b_var, b_cmp, b_chain, b_and, b_or, b_not, b_yes, b_call, b_callK, b_blt, b_isx, b_isk, a_nil, a_cons, r_nil, r_cons, o_nopart, o_part, i_rng1, i_rng2, i_zip, i_enum, i_cap, i_var, i_blt, i_call, i_tup, i_lst, i_idx, i_slc, q_add, q_sub, q_neg, q_lt, q_le, q_gt, q_ge, q_eqI, q_neI, q_isNN, q_isNT, q_isNI, q_isNL, q_isBB, q_isNB, q_isNS, q_isnNN, q_isnNT, q_isnNI, q_isnNL, q_andT, q_andF, q_orT, q_orF, q_not, q_toB, q_part, q_fzI, q_fzB, q_fzS, q_fzN, q_fzT, q_fzL, q_fzW, q_fzSt, q_fzSc, s_nil, s_cons, k_nx, k_rt, k_bk, k_ct, s_asg, s_asgF, s_asgT, k_asg, s_par, s_expr, s_iff, s_retN, s_raise, s_brk, s_cont, s_pass, s_frz, k_frzO, k_frzV, s_retV, k_retO, k_retV, s_ret_non, s_ret_bl, s_ret_int, s_ret_str, s_ret_con, s_ret_bin, s_ret_neg, s_ret_cmp, s_ret_chain, s_ret_and, s_ret_or, s_ret_not, s_ret_ite, s_ret_tup, s_ret_lst, s_ret_idx, s_ret_slc, s_ret_call, s_ret_callK, s_ret_op0, s_ret_op1, s_ret_callM, s_ret_blt, s_ret_isx, s_ret_isk, s_ret_comp, s_app, k_runR, k_runN, for_nil, k_forN, k_forC, k_forB, k_forR, g_nm, g_tp, o_some, noErr_ret, Yes, retK, ret_bind, err_bind, bad_bind, draw_bind, getV, slOf, slO, setAll, parT, List.length_cons, List.length_nil, List.map_cons, List.map_nil, List.getElem?_cons_zero, List.getElem?_cons_succ, List.set_cons_zero, List.set_cons_succ, List.cons_append, List.nil_append, List.replicate_succ, List.replicate_zero]
  | non => simp only [inD, inW, e_non, e_bl, e_int, e_str, e_var, e_con, e_bin, e_neg, e_cmp, e_chain, e_and, e_or, e_not, e_ite, e_tup, e_lst, e_idx, e_slc, e_call, e_callK, e_blt, e_isk, e_caught, e_isx, e_op0, e_op1, e_callM, b_op1, b_callM, i_callK, i_op1, o_emp, o_revT, b_var, b_cmp, b_chain, b_and, b_or, b_not, b_yes, b_call, b_callK, b_blt, b_isx, b_isk, a_nil, a_cons, r_nil, r_cons, o_nopart, o_part, i_rng1, i_rng2, i_zip, i_enum, i_cap, i_var, i_blt, i_call, i_tup, i_lst, i_idx, i_slc, q_add, q_sub, q_neg, q_lt, q_le, q_gt, q_ge, q_eqI, q_neI, q_isNN, q_isNT, q_isNI, q_isNL, q_isBB, q_isNB, q_isNS, q_isnNN, q_isnNT, q_isnNI, q_isnNL, q_andT, q_andF, q_orT, q_orF, q_not, q_toB, q_part, q_fzI, q_fzB, q_fzS, q_fzN, q_fzT, q_fzL, q_fzW, q_fzSt, q_fzSc, s_nil, s_cons, k_nx, k_rt, k_bk, k_ct, s_asg, s_asgF, s_asgT, k_asg, s_par, s_expr, s_iff, s_retN, s_raise, s_brk, s_cont, s_pass, s_frz, k_frzO, k_frzV, s_retV, k_retO, k_retV, s_ret_non, s_ret_bl, s_ret_int, s_ret_str, s_ret_con, s_ret_bin, s_ret_neg, s_ret_cmp, s_ret_chain, s_ret_and, s_ret_or, s_ret_not, s_ret_ite, s_ret_tup, s_ret_lst, s_ret_idx, s_ret_slc, s_ret_call, s_ret_callK, s_ret_op0, s_ret_op1, s_ret_callM, s_ret_blt, s_ret_isx, s_ret_isk, s_ret_comp, s_app, k_runR, k_runN, for_nil, k_forN, k_forC, k_forB, k_forR, g_nm, g_tp, o_some, noErr_ret, Yes, retK, ret_bind, err_bind, bad_bind, draw_bind, getV, slOf, slO, setAll, parT, List.length_cons, List.length_nil, List.map_cons, List.map_nil, List.getElem?_cons_zero, List.getElem?_cons_succ, List.set_cons_zero, List.set_cons_succ, List.cons_append, List.nil_append, List.replicate_succ, List.replicate_zero]
  | str x => simp only [inD, inW, e_non, e_bl, e_int, e_str, e_var, e_con, e_bin, e_neg, e_cmp, e_chain, e_and, e_or, e_not, e_ite, e_tup, e_lst, e_idx, e_slc, e_call, e_callK, e_blt, e_isk, e_caught, e_isx, e_op0, e_op1, e_callM, b_op1, b_callM, i_callK, i_op1, o_emp, o_revT, b_var, b_cmp, b_chain, b_and, b_or, b_not, b_yes, b_call, b_callK, b_blt, b_isx, b_isk, a_nil, a_cons, r_nil, r_cons, o_nopart, o_part, i_rng1, i_rng2, i_zip, i_enum, i_cap, i_var, i_blt, i_call, i_tup, i_lst, i_idx, i_slc, q_add, q_sub, q_neg, q_lt, q_le, q_gt, q_ge, q_eqI, q_neI, q_isNN, q_isNT, q_isNI, q_isNL, q_isBB, q_isNB, q_isNS, q_isnNN, q_isnNT, q_isnNI, q_isnNL, q_andT, q_andF, q_orT, q_orF, q_not, q_toB, q_part, q_fzI, q_fzB, q_fzS, q_fzN, q_fzT, q_fzL, q_fzW, q_fzSt, q_fzSc, s_nil, s_cons, k_nx, k_rt, k_bk, k_ct, s_asg, s_asgF, s_asgT, k_asg, s_par, s_expr, s_iff, s_retN, s_raise, s_brk, s_cont, s_pass, s_frz, k_frzO, k_frzV, s_retV, k_retO, k_retV, s_ret_non, s_ret_bl, s_ret_int, s_ret_str, s_ret_con, s_ret_bin, s_ret_neg, s_ret_cmp, s_ret_chain, s_ret_and, s_ret_or, s_ret_not, s_ret_ite, s_ret_tup, s_ret_lst, s_ret_idx, s_ret_slc, s_ret_call, s_ret_callK, s_ret_op0, s_ret_op1, s_ret_callM, s_ret_blt, s_ret_isx, s_ret_isk, s_ret_comp, s_app, k_runR, k_runN, for_nil, k_forN, k_forC, k_forB, k_forR, g_nm, g_tp, o_some, noErr_ret, Yes, retK, ret_bind, err_bind, bad_bind, draw_bind, getV, slOf, slO, setAll, parT, List.length_cons, List.length_nil, List.map_cons, List.map_nil, List.getElem?_cons_zero, List.getElem?_cons_succ, List.set_cons_zero, List.set_cons_succ, List.cons_append, List.nil_append, List.replicate_succ, List.replicate_zero]
  | tup x => simp only [inD, inW, e_non, e_bl, e_int, e_str, e_var, e_con, e_bin, e_neg, e_cmp, e_chain, e_and, e_or, e_not, e_ite, e_tup, e_lst, e_idx, e_slc, e_call, e_callK, e_blt, e_isk, e_caught, e_isx, e_op0, e_op1, e_callM, b_op1, b_callM, i_callK, i_op1, o_emp, o_revT, b_var, b_cmp, b_chain, b_and, b_or, b_not, b_yes, b_call, b_callK, b_blt, b_isx, b_isk, a_nil, a_cons, r_nil, r_cons, o_nopart, o_part, i_rng1, i_rng2, i_zip, i_enum, i_cap, i_var, i_blt, i_call, i_tup, i_lst, i_idx, i_slc, q_add, q_sub, q_neg, q_lt, q_le, q_gt, q_ge, q_eqI, q_neI, q_isNN, q_isNT, q_isNI, q_isNL, q_isBB, q_isNB, q_isNS, q_isnNN, q_isnNT, q_isnNI, q_isnNL, q_andT, q_andF, q_orT, q_orF, q_not, q_toB, q_part, q_fzI, q_fzB, q_fzS, q_fzN, q_fzT, q_fzL, q_fzW, q_fzSt, q_fzSc, s_nil, s_cons, k_nx, k_rt, k_bk, k_ct, s_asg, s_asgF, s_asgT, k_asg, s_par, s_expr, s_iff, s_retN, s_raise, s_brk, s_cont, s_pass, s_frz, k_frzO, k_frzV, s_retV, k_retO, k_retV, s_ret_non, s_ret_bl, s_ret_int, s_ret_str, s_ret_con, s_ret_bin, s_ret_neg, s_ret_cmp, s_ret_chain, s_ret_and, s_ret_or, s_ret_not, s_ret_ite, s_ret_tup, s_ret_lst, s_ret_idx, s_ret_slc, s_ret_call, s_ret_callK, s_ret_op0, s_ret_op1, s_ret_callM, s_ret_blt, s_ret_isx, s_ret_isk, s_ret_comp, s_app, k_runR, k_runN, for_nil, k_forN, k_forC, k_forB, k_forR, g_nm, g_tp, o_some, noErr_ret, Yes, retK, ret_bind, err_bind, bad_bind, draw_bind, getV, slOf, slO, setAll, parT, List.length_cons, List.length_nil, List.map_cons, List.map_nil, List.getElem?_cons_zero, List.getElem?_cons_succ, List.set_cons_zero, List.set_cons_succ, List.cons_append, List.nil_append, List.replicate_succ, List.replicate_zero]
  | lst x => simp only [inD, inW, e_non, e_bl, e_int, e_str, e_var, e_con, e_bin, e_neg, e_cmp, e_chain, e_and, e_or, e_not, e_ite, e_tup, e_lst, e_idx, e_slc, e_call, e_callK, e_blt, e_isk, e_caught, e_isx, e_op0, e_op1, e_callM, b_op1, b_callM, i_callK, i_op1, o_emp, o_revT, b_var, b_cmp, b_chain, b_and, b_or, b_not, b_yes, b_call, b_callK, b_blt, b_isx, b_isk, a_nil, a_cons, r_nil, r_cons, o_nopart, o_part, i_rng1, i_rng2, i_zip, i_enum, i_cap, i_var, i_blt, i_call, i_tup, i_lst, i_idx, i_slc, q_add, q_sub, q_neg, q_lt, q_le, q_gt, q_ge, q_eqI, q_neI, q_isNN, q_isNT, q_isNI, q_isNL, q_isBB, q_isNB, q_isNS, q_isnNN, q_isnNT, q_isnNI, q_isnNL, q_andT, q_andF, q_orT, q_orF, q_not, q_toB, q_part, q_fzI, q_fzB, q_fzS, q_fzN, q_fzT, q_fzL, q_fzW, q_fzSt, q_fzSc, s_nil, s_cons, k_nx, k_rt, k_bk, k_ct, s_asg, s_asgF, s_asgT, k_asg, s_par, s_expr, s_iff, s_retN, s_raise, s_brk, s_cont, s_pass, s_frz, k_frzO, k_frzV, s_retV, k_retO, k_retV, s_ret_non, s_ret_bl, s_ret_int, s_ret_str, s_ret_con, s_ret_bin, s_ret_neg, s_ret_cmp, s_ret_chain, s_ret_and, s_ret_or, s_ret_not, s_ret_ite, s_ret_tup, s_ret_lst, s_ret_idx, s_ret_slc, s_ret_call, s_ret_callK, s_ret_op0, s_ret_op1, s_ret_callM, s_ret_blt, s_ret_isx, s_ret_isk, s_ret_comp, s_app, k_runR, k_runN, for_nil, k_forN, k_forC, k_forB, k_forR, g_nm, g_tp, o_some, noErr_ret, Yes, retK, ret_bind, err_bind, bad_bind, draw_bind, getV, slOf, slO, setAll, parT, List.length_cons, List.length_nil, List.map_cons, List.map_nil, List.getElem?_cons_zero, List.getElem?_cons_succ, List.set_cons_zero, List.set_cons_succ, List.cons_append, List.nil_append, List.replicate_succ, List.replicate_zero]
  | _ => cases h
def needT (M : Int) (c w : D) : T D := if inN 1 M c = true then (if inN 1 (toI c) w = true then .ret .non else .err 4) else .err 2
theorem need_ok {M C : Int} {w : D} (h1 : inN 1 M (.int C) = true) (h2 : inN 1 C w = true) : needT M (.int C) w = .ret .non := by
  unfold needT
  rw [if_pos h1]
  exact if_pos h2
theorem need_w {M C : Int} {w : D} (h1 : inN 1 M (.int C) = true) (h2 : inN 1 C w = false) : needT M (.int C) w = .err 4 := by
  unfold needT
  rw [if_pos h1]
  exact if_neg (by rw [Bool.not_eq_true]; exact h2)
theorem need_c {M : Int} {c w : D} (h1 : inN 1 M c = false) : needT M c w = .err 2 := if_neg (by rw [Bool.not_eq_true]; exact h1)
theorem f3 {n : Nat} {c w : D} {M : Int} (hc : kd c = true) (hw : kd w = true) (hM : M < 1000000000000000000) : callF tab WH (n + 3) 3 [c, w, .int M] = needT M c w := by
  show runD (callF tab WH (n + 2)) WH d3 _ = _
  rw [run_eq rfl]
  have e1 := f2 (n := n) (a := 1) hc (by decide) hM
  have fz1 := kd_fz hc
  have fz2 := kd_fz hw
  unfold needT
  simp only [d3, startE]
  by_cases h1 : inN 1 M c = true
  · obtain ⟨i, rfl, h2, h3⟩ := inN_int h1
    have e2 := f2 (n := n) (a := 1) (b := i) hw (by decide) (by omega)
    by_cases h4 : inN 1 i w = true
    · simp only [e_non, e_bl, e_int, e_str, e_var, e_con, e_bin, e_neg, e_cmp, e_chain, e_and, e_or, e_not, e_ite, e_tup, e_lst, e_idx, e_slc, e_call, e_callK, e_blt, e_isk, e_caught, e_isx, e_op0, e_op1, e_callM, b_op1, b_callM, i_callK, i_op1, o_emp, o_revT, b_var, b_cmp, b_chain, b_and, b_or, b_not, b_yes, b_call, b_callK, b_blt, b_isx, b_isk, a_nil, a_cons, r_nil, r_cons, o_nopart, o_part, i_rng1, i_rng2, i_zip, i_enum, i_cap, i_var, i_blt, i_call, i_tup, i_lst, i_idx, i_slc, q_add, q_sub, q_neg, q_lt, q_le, q_gt, q_ge, q_eqI, q_neI, q_isNN, q_isNT, q_isNI, q_isNL, q_isBB, q_isNB, q_isNS, q_isnNN, q_isnNT, q_isnNI, q_isnNL, q_andT, q_andF, q_orT, q_orF, q_not, q_toB, q_part, q_fzI, q_fzB, q_fzS, q_fzN, q_fzT, q_fzL, q_fzW, q_fzSt, q_fzSc, s_nil, s_cons, k_nx, k_rt, k_bk, k_ct, s_asg, s_asgF, s_asgT, k_asg, s_par, s_expr, s_iff, s_retN, s_raise, s_brk, s_cont, s_pass, s_frz, k_frzO, k_frzV, s_retV, k_retO, k_retV, s_ret_non, s_ret_bl, s_ret_int, s_ret_str, s_ret_con, s_ret_bin, s_ret_neg, s_ret_cmp, s_ret_chain, s_ret_and, s_ret_or, s_ret_not, s_ret_ite, s_ret_tup, s_ret_lst, s_ret_idx, s_ret_slc, s_ret_call, s_ret_callK, s_ret_op0, s_ret_op1, s_ret_callM, s_ret_blt, s_ret_isx, s_ret_isk, s_ret_comp, s_app, k_runR, k_runN, for_nil, k_forN, k_forC, k_forB, k_forR, g_nm, g_tp, o_some, noErr_ret, Yes, retK, ret_bind, err_bind, bad_bind, draw_bind, getV, slOf, slO, setAll, parT, List.length_cons, List.length_nil, List.map_cons, List.map_nil, List.getElem?_cons_zero, List.getElem?_cons_succ, List.set_cons_zero, List.set_cons_succ, List.cons_append, List.nil_append, List.replicate_succ, List.replicate_zero, fz1, fz2, e1, e2, h1, h4, toI, Bool.not_true, Bool.false_eq_true, if_false, if_true]
    · rw [Bool.not_eq_true] at h4
      simp only [e_non, e_bl, e_int, e_str, e_var, e_con, e_bin, e_neg, e_cmp, e_chain, e_and, e_or, e_not, e_ite, e_tup, e_lst, e_idx, e_slc, e_call, e_callK, e_blt, e_isk, e_caught, e_isx, e_op0, e_op1, e_callM, b_op1, b_callM, i_callK, i_op1, o_emp, o_revT, b_var, b_cmp, b_chain, b_and, b_or, b_not, b_yes, b_call, b_callK, b_blt, b_isx, b_isk, a_nil, a_cons, r_nil, r_cons, o_nopart, o_part, i_rng1, i_rng2, i_zip, i_enum, i_cap, i_var, i_blt, i_call, i_tup, i_lst, i_idx, i_slc, q_add, q_sub, q_neg, q_lt, q_le, q_gt, q_ge, q_eqI, q_neI, q_isNN, q_isNT, q_isNI, q_isNL, q_isBB, q_isNB, q_isNS, q_isnNN, q_isnNT, q_isnNI, q_isnNL, q_andT, q_andF, q_orT, q_orF, q_not, q_toB, q_part, q_fzI, q_fzB, q_fzS, q_fzN, q_fzT, q_fzL, q_fzW, q_fzSt, q_fzSc, s_nil, s_cons, k_nx, k_rt, k_bk, k_ct, s_asg, s_asgF, s_asgT, k_asg, s_par, s_expr, s_iff, s_retN, s_raise, s_brk, s_cont, s_pass, s_frz, k_frzO, k_frzV, s_retV, k_retO, k_retV, s_ret_non, s_ret_bl, s_ret_int, s_ret_str, s_ret_con, s_ret_bin, s_ret_neg, s_ret_cmp, s_ret_chain, s_ret_and, s_ret_or, s_ret_not, s_ret_ite, s_ret_tup, s_ret_lst, s_ret_idx, s_ret_slc, s_ret_call, s_ret_callK, s_ret_op0, s_ret_op1, s_ret_callM, s_ret_blt, s_ret_isx, s_ret_isk, s_ret_comp, s_app, k_runR, k_runN, for_nil, k_forN, k_forC, k_forB, k_forR, g_nm, g_tp, o_some, noErr_ret, Yes, retK, ret_bind, err_bind, bad_bind, draw_bind, getV, slOf, slO, setAll, parT, List.length_cons, List.length_nil, List.map_cons, List.map_nil, List.getElem?_cons_zero, List.getElem?_cons_succ, List.set_cons_zero, List.set_cons_succ, List.cons_append, List.nil_append, List.replicate_succ, List.replicate_zero, fz1, fz2, e1, e2, h1, h4, toI, Bool.not_true, Bool.not_false, Bool.false_eq_true, if_false, if_true]
  · rw [Bool.not_eq_true] at h1
    simp only [e_non, e_bl, e_int, e_str, e_var, e_con, e_bin, e_neg, e_cmp, e_chain, e_and, e_or, e_not, e_ite, e_tup, e_lst, e_idx, e_slc, e_call, e_callK, e_blt, e_isk, e_caught, e_isx, e_op0, e_op1, e_callM, b_op1, b_callM, i_callK, i_op1, o_emp, o_revT, b_var, b_cmp, b_chain, b_and, b_or, b_not, b_yes, b_call, b_callK, b_blt, b_isx, b_isk, a_nil, a_cons, r_nil, r_cons, o_nopart, o_part, i_rng1, i_rng2, i_zip, i_enum, i_cap, i_var, i_blt, i_call, i_tup, i_lst, i_idx, i_slc, q_add, q_sub, q_neg, q_lt, q_le, q_gt, q_ge, q_eqI, q_neI, q_isNN, q_isNT, q_isNI, q_isNL, q_isBB, q_isNB, q_isNS, q_isnNN, q_isnNT, q_isnNI, q_isnNL, q_andT, q_andF, q_orT, q_orF, q_not, q_toB, q_part, q_fzI, q_fzB, q_fzS, q_fzN, q_fzT, q_fzL, q_fzW, q_fzSt, q_fzSc, s_nil, s_cons, k_nx, k_rt, k_bk, k_ct, s_asg, s_asgF, s_asgT, k_asg, s_par, s_expr, s_iff, s_retN, s_raise, s_brk, s_cont, s_pass, s_frz, k_frzO, k_frzV, s_retV, k_retO, k_retV, s_ret_non, s_ret_bl, s_ret_int, s_ret_str, s_ret_con, s_ret_bin, s_ret_neg, s_ret_cmp, s_ret_chain, s_ret_and, s_ret_or, s_ret_not, s_ret_ite, s_ret_tup, s_ret_lst, s_ret_idx, s_ret_slc, s_ret_call, s_ret_callK, s_ret_op0, s_ret_op1, s_ret_callM, s_ret_blt, s_ret_isx, s_ret_isk, s_ret_comp, s_app, k_runR, k_runN, for_nil, k_forN, k_forC, k_forB, k_forR, g_nm, g_tp, o_some, noErr_ret, Yes, retK, ret_bind, err_bind, bad_bind, draw_bind, getV, slOf, slO, setAll, parT, List.length_cons, List.length_nil, List.map_cons, List.map_nil, List.getElem?_cons_zero, List.getElem?_cons_succ, List.set_cons_zero, List.set_cons_succ, List.cons_append, List.nil_append, List.replicate_succ, List.replicate_zero, fz1, fz2, e1, h1, Bool.not_false, Bool.false_eq_true, if_false, if_true]
def lowD (p q : Int) : D := .tup [.int (p / gz p q), .int (q / gz p q)]
theorem gcd_gz {p q : Int} : bltT .gcd [.int p, .int q] = .ret (.int (gz p q)) := rfl
theorem fdiv_g {i p q : Int} (hq : 1 ≤ q) (h3 : q < 2 ^ 200) : binT .fdiv (.int i) (.int (gz p q)) = .ret (.int (i / gz p q)) := by
  have h1 := gz_pos (p := p) hq
  have h2 := gz_le (p := p) hq
  exact q_fdivW (by omega) (by omega)
def chI (a b : Int) : Int := ((ch a.toNat b.toNat : Nat) : Int)
theorem comb_I {i j : Int} (h0 : 0 ≤ i) (h1 : 0 ≤ j) (h2 : i ≤ 18000) : bltT .comb [.int i, .int j] = .ret (.int (chI i j)) := by
  obtain ⟨a, rfl⟩ := Int.eq_ofNat_of_zero_le h0
  obtain ⟨b, rfl⟩ := Int.eq_ofNat_of_zero_le h1
  show (if (0 : Int) ≤ (a : Nat) ∧ (0 : Int) ≤ (b : Nat) ∧ ((a : Nat) : Int) ≤ 18000 then T.ret (D.int (PySem.W.mcComb (a : Nat) (b : Nat))) else T.bad) = _
  rw [if_pos ⟨h0, h1, h2⟩, comb_ch]
  rfl
theorem chI_nat {c k : Nat} : chI (c : Int) (k : Int) = ((ch c k : Nat) : Int) := rfl
theorem chI_pos {i j : Int} (h0 : 0 ≤ j) (h1 : j ≤ i) : 1 ≤ chI i j := by
  have := ch_pos i.toNat j.toNat (by omega)
  unfold chI
  omega
theorem chI_nn {i j : Int} : 0 ≤ chI i j := Int.natCast_nonneg _
theorem chI_60 {i j : Int} (h0 : 1 ≤ i) (h1 : i ≤ 60) : chI i j < 1000000000000000000 := by
  have := ch_60 (n := i.toNat) (k := j.toNat) (by omega) (by omega)
  unfold chI
  omega
theorem chI_1000 {i j : Int} (h1 : i ≤ 1000) (h2 : j ≤ 30) : chI i j < 2 ^ 192 := by
  have := ch_1000 (n := i.toNat) (k := j.toNat) (by omega) (by omega)
  unfold chI
  omega
theorem chI_big {i j : Int} (h0 : 0 ≤ i) (h : i < j) : chI i j = 0 := by
  unfold chI
  rw [ch_big _ _ (by omega)]
  rfl
def missT (c w s : D) : T D := if inN 1 60 c = true then (if inN 1 (toI c) w = true then (if inN 0 (toI c) s = true then .ret (lowD (chI (toI c - toI w) (toI s)) (chI (toI c) (toI s))) else .err 3) else .err 4) else .err 2
theorem f4 {n : Nat} {c w s : D} (hc : kd c = true) (hw : kd w = true) (hs : kd s = true) : callF tab WH (n + 4) 4 [c, w, s] = missT c w s := by
  show runD (callF tab WH (n + 3)) WH d4 _ = _
  rw [run_eq rfl]
  have e1 := f3 (n := n) (M := 60) hc hw (by decide)
  have fz1 := kd_fz hc
  have fz2 := kd_fz hw
  have fz3 := kd_fz hs
  unfold missT
  simp only [d4, startE]
  by_cases h1 : inN 1 60 c = true
  · obtain ⟨C, rfl, c1, c2⟩ := inN_int h1
    by_cases h2 : inN 1 C w = true
    · obtain ⟨W, rfl, w1, w2⟩ := inN_int h2
      rw [need_ok h1 h2] at e1
      have e2 := f2 (n := n + 1) (a := 0) (b := C) hs (by decide) (by omega)
      by_cases h3 : inN 0 C s = true
      · obtain ⟨S, rfl, s1, s2⟩ := inN_int h3
        have k1 := comb_I (i := C - W) (j := S) (by omega) s1 (by omega)
        have k2 := comb_I (i := C) (j := S) (by omega) s1 (by omega)
        have k3 := chI_pos s1 s2
        have k4 := chI_60 (j := S) c1 c2
        have k5 : chI C S < 2 ^ 200 := by omega
        simp only [e_non, e_bl, e_int, e_str, e_var, e_con, e_bin, e_neg, e_cmp, e_chain, e_and, e_or, e_not, e_ite, e_tup, e_lst, e_idx, e_slc, e_call, e_callK, e_blt, e_isk, e_caught, e_isx, e_op0, e_op1, e_callM, b_op1, b_callM, i_callK, i_op1, o_emp, o_revT, b_var, b_cmp, b_chain, b_and, b_or, b_not, b_yes, b_call, b_callK, b_blt, b_isx, b_isk, a_nil, a_cons, r_nil, r_cons, o_nopart, o_part, i_rng1, i_rng2, i_zip, i_enum, i_cap, i_var, i_blt, i_call, i_tup, i_lst, i_idx, i_slc, q_add, q_sub, q_neg, q_lt, q_le, q_gt, q_ge, q_eqI, q_neI, q_isNN, q_isNT, q_isNI, q_isNL, q_isBB, q_isNB, q_isNS, q_isnNN, q_isnNT, q_isnNI, q_isnNL, q_andT, q_andF, q_orT, q_orF, q_not, q_toB, q_part, q_fzI, q_fzB, q_fzS, q_fzN, q_fzT, q_fzL, q_fzW, q_fzSt, q_fzSc, s_nil, s_cons, k_nx, k_rt, k_bk, k_ct, s_asg, s_asgF, s_asgT, k_asg, s_par, s_expr, s_iff, s_retN, s_raise, s_brk, s_cont, s_pass, s_frz, k_frzO, k_frzV, s_retV, k_retO, k_retV, s_ret_non, s_ret_bl, s_ret_int, s_ret_str, s_ret_con, s_ret_bin, s_ret_neg, s_ret_cmp, s_ret_chain, s_ret_and, s_ret_or, s_ret_not, s_ret_ite, s_ret_tup, s_ret_lst, s_ret_idx, s_ret_slc, s_ret_call, s_ret_callK, s_ret_op0, s_ret_op1, s_ret_callM, s_ret_blt, s_ret_isx, s_ret_isk, s_ret_comp, s_app, k_runR, k_runN, for_nil, k_forN, k_forC, k_forB, k_forR, g_nm, g_tp, o_some, noErr_ret, Yes, retK, ret_bind, err_bind, bad_bind, draw_bind, getV, slOf, slO, setAll, parT, List.length_cons, List.length_nil, List.map_cons, List.map_nil, List.getElem?_cons_zero, List.getElem?_cons_succ, List.set_cons_zero, List.set_cons_succ, List.cons_append, List.nil_append, List.replicate_succ, List.replicate_zero, toI, e1, e2, h1, h2, h3, k1, k2, gcd_gz, fdiv_g k3 k5, t2, lowD, Bool.not_true, Bool.false_eq_true, if_false, if_true]
      · rw [Bool.not_eq_true] at h3
        simp only [e_non, e_bl, e_int, e_str, e_var, e_con, e_bin, e_neg, e_cmp, e_chain, e_and, e_or, e_not, e_ite, e_tup, e_lst, e_idx, e_slc, e_call, e_callK, e_blt, e_isk, e_caught, e_isx, e_op0, e_op1, e_callM, b_op1, b_callM, i_callK, i_op1, o_emp, o_revT, b_var, b_cmp, b_chain, b_and, b_or, b_not, b_yes, b_call, b_callK, b_blt, b_isx, b_isk, a_nil, a_cons, r_nil, r_cons, o_nopart, o_part, i_rng1, i_rng2, i_zip, i_enum, i_cap, i_var, i_blt, i_call, i_tup, i_lst, i_idx, i_slc, q_add, q_sub, q_neg, q_lt, q_le, q_gt, q_ge, q_eqI, q_neI, q_isNN, q_isNT, q_isNI, q_isNL, q_isBB, q_isNB, q_isNS, q_isnNN, q_isnNT, q_isnNI, q_isnNL, q_andT, q_andF, q_orT, q_orF, q_not, q_toB, q_part, q_fzI, q_fzB, q_fzS, q_fzN, q_fzT, q_fzL, q_fzW, q_fzSt, q_fzSc, s_nil, s_cons, k_nx, k_rt, k_bk, k_ct, s_asg, s_asgF, s_asgT, k_asg, s_par, s_expr, s_iff, s_retN, s_raise, s_brk, s_cont, s_pass, s_frz, k_frzO, k_frzV, s_retV, k_retO, k_retV, s_ret_non, s_ret_bl, s_ret_int, s_ret_str, s_ret_con, s_ret_bin, s_ret_neg, s_ret_cmp, s_ret_chain, s_ret_and, s_ret_or, s_ret_not, s_ret_ite, s_ret_tup, s_ret_lst, s_ret_idx, s_ret_slc, s_ret_call, s_ret_callK, s_ret_op0, s_ret_op1, s_ret_callM, s_ret_blt, s_ret_isx, s_ret_isk, s_ret_comp, s_app, k_runR, k_runN, for_nil, k_forN, k_forC, k_forB, k_forR, g_nm, g_tp, o_some, noErr_ret, Yes, retK, ret_bind, err_bind, bad_bind, draw_bind, getV, slOf, slO, setAll, parT, List.length_cons, List.length_nil, List.map_cons, List.map_nil, List.getElem?_cons_zero, List.getElem?_cons_succ, List.set_cons_zero, List.set_cons_succ, List.cons_append, List.nil_append, List.replicate_succ, List.replicate_zero, fz3, toI, e1, e2, h1, h2, h3, Bool.not_false, Bool.false_eq_true, if_false, if_true]
    · rw [need_w h1 (by rw [← Bool.not_eq_true]; exact h2)] at e1
      rw [Bool.not_eq_true] at h2
      simp only [e_non, e_bl, e_int, e_str, e_var, e_con, e_bin, e_neg, e_cmp, e_chain, e_and, e_or, e_not, e_ite, e_tup, e_lst, e_idx, e_slc, e_call, e_callK, e_blt, e_isk, e_caught, e_isx, e_op0, e_op1, e_callM, b_op1, b_callM, i_callK, i_op1, o_emp, o_revT, b_var, b_cmp, b_chain, b_and, b_or, b_not, b_yes, b_call, b_callK, b_blt, b_isx, b_isk, a_nil, a_cons, r_nil, r_cons, o_nopart, o_part, i_rng1, i_rng2, i_zip, i_enum, i_cap, i_var, i_blt, i_call, i_tup, i_lst, i_idx, i_slc, q_add, q_sub, q_neg, q_lt, q_le, q_gt, q_ge, q_eqI, q_neI, q_isNN, q_isNT, q_isNI, q_isNL, q_isBB, q_isNB, q_isNS, q_isnNN, q_isnNT, q_isnNI, q_isnNL, q_andT, q_andF, q_orT, q_orF, q_not, q_toB, q_part, q_fzI, q_fzB, q_fzS, q_fzN, q_fzT, q_fzL, q_fzW, q_fzSt, q_fzSc, s_nil, s_cons, k_nx, k_rt, k_bk, k_ct, s_asg, s_asgF, s_asgT, k_asg, s_par, s_expr, s_iff, s_retN, s_raise, s_brk, s_cont, s_pass, s_frz, k_frzO, k_frzV, s_retV, k_retO, k_retV, s_ret_non, s_ret_bl, s_ret_int, s_ret_str, s_ret_con, s_ret_bin, s_ret_neg, s_ret_cmp, s_ret_chain, s_ret_and, s_ret_or, s_ret_not, s_ret_ite, s_ret_tup, s_ret_lst, s_ret_idx, s_ret_slc, s_ret_call, s_ret_callK, s_ret_op0, s_ret_op1, s_ret_callM, s_ret_blt, s_ret_isx, s_ret_isk, s_ret_comp, s_app, k_runR, k_runN, for_nil, k_forN, k_forC, k_forB, k_forR, g_nm, g_tp, o_some, noErr_ret, Yes, retK, ret_bind, err_bind, bad_bind, draw_bind, getV, slOf, slO, setAll, parT, List.length_cons, List.length_nil, List.map_cons, List.map_nil, List.getElem?_cons_zero, List.getElem?_cons_succ, List.set_cons_zero, List.set_cons_succ, List.cons_append, List.nil_append, List.replicate_succ, List.replicate_zero, fz2, toI, e1, h1, h2, Bool.false_eq_true, if_false, if_true]
  · rw [Bool.not_eq_true] at h1
    rw [need_c h1] at e1
    simp only [e_non, e_bl, e_int, e_str, e_var, e_con, e_bin, e_neg, e_cmp, e_chain, e_and, e_or, e_not, e_ite, e_tup, e_lst, e_idx, e_slc, e_call, e_callK, e_blt, e_isk, e_caught, e_isx, e_op0, e_op1, e_callM, b_op1, b_callM, i_callK, i_op1, o_emp, o_revT, b_var, b_cmp, b_chain, b_and, b_or, b_not, b_yes, b_call, b_callK, b_blt, b_isx, b_isk, a_nil, a_cons, r_nil, r_cons, o_nopart, o_part, i_rng1, i_rng2, i_zip, i_enum, i_cap, i_var, i_blt, i_call, i_tup, i_lst, i_idx, i_slc, q_add, q_sub, q_neg, q_lt, q_le, q_gt, q_ge, q_eqI, q_neI, q_isNN, q_isNT, q_isNI, q_isNL, q_isBB, q_isNB, q_isNS, q_isnNN, q_isnNT, q_isnNI, q_isnNL, q_andT, q_andF, q_orT, q_orF, q_not, q_toB, q_part, q_fzI, q_fzB, q_fzS, q_fzN, q_fzT, q_fzL, q_fzW, q_fzSt, q_fzSc, s_nil, s_cons, k_nx, k_rt, k_bk, k_ct, s_asg, s_asgF, s_asgT, k_asg, s_par, s_expr, s_iff, s_retN, s_raise, s_brk, s_cont, s_pass, s_frz, k_frzO, k_frzV, s_retV, k_retO, k_retV, s_ret_non, s_ret_bl, s_ret_int, s_ret_str, s_ret_con, s_ret_bin, s_ret_neg, s_ret_cmp, s_ret_chain, s_ret_and, s_ret_or, s_ret_not, s_ret_ite, s_ret_tup, s_ret_lst, s_ret_idx, s_ret_slc, s_ret_call, s_ret_callK, s_ret_op0, s_ret_op1, s_ret_callM, s_ret_blt, s_ret_isx, s_ret_isk, s_ret_comp, s_app, k_runR, k_runN, for_nil, k_forN, k_forC, k_forB, k_forR, g_nm, g_tp, o_some, noErr_ret, Yes, retK, ret_bind, err_bind, bad_bind, draw_bind, getV, slOf, slO, setAll, parT, List.length_cons, List.length_nil, List.map_cons, List.map_nil, List.getElem?_cons_zero, List.getElem?_cons_succ, List.set_cons_zero, List.set_cons_succ, List.cons_append, List.nil_append, List.replicate_succ, List.replicate_zero, fz1, fz2, e1, h1, Bool.false_eq_true, if_false]
/-! lots counted by the law -/
def b9 : S := (.cons (.asgF 2 (.bin .fdiv (.bin .mul (.var 2) (.bin .sub (.var 0) (.var 3))) (.bin .add (.var 3) (.int 1)))) .nil)
theorem rng1_T {hi : Int} (h3 : -1000000 ≤ hi) (h4 : hi ≤ 1000000) : rng1T (.int hi) = .ret ((rng 0 hi).map D.int) := by
  show rngI 0 hi = _
  rw [rng_ok ⟨by omega, by omega, by omega, by omega, by show _ ≤ 16777216; omega⟩]
  unfold rng
  rw [List.map_map]
  rfl
theorem step9i {call : Nat → List D → T D} {c k x y : Int} {s : D} (q1 : binT .mul (.int x) (.int (c - k)) = .ret (.int (x * (c - k)))) (q2 : binT .fdiv (.int (x * (c - k))) (.int (k + 1)) = .ret (.int (x * (c - k) / (k + 1)))) (q3 : x * (c - k) / (k + 1) = y) : ex call WH b9 [.val (.int c), .val s, .val (.int x), .val (.int k)] = .ret (.nx [.val (.int c), .val s, .val (.int y), .val (.int k)]) := by
  unfold b9
  simp only [e_non, e_bl, e_int, e_str, e_var, e_con, e_bin, e_neg, e_cmp, e_chain, e_and, e_or, e_not, e_ite, e_tup, e_lst, e_idx, e_slc, e_call, e_callK, e_blt, e_isk, e_caught, e_isx, e_op0, e_op1, e_callM, b_op1, b_callM, i_callK, i_op1, o_emp, o_revT, b_var, b_cmp, b_chain, b_and, b_or, b_not, b_yes, b_call, b_callK, b_blt, b_isx, b_isk, a_nil, a_cons, r_nil, r_cons, o_nopart, o_part, i_rng1, i_rng2, i_zip, i_enum, i_cap, i_var, i_blt, i_call, i_tup, i_lst, i_idx, i_slc, q_add, q_sub, q_neg, q_lt, q_le, q_gt, q_ge, q_eqI, q_neI, q_isNN, q_isNT, q_isNI, q_isNL, q_isBB, q_isNB, q_isNS, q_isnNN, q_isnNT, q_isnNI, q_isnNL, q_andT, q_andF, q_orT, q_orF, q_not, q_toB, q_part, q_fzI, q_fzB, q_fzS, q_fzN, q_fzT, q_fzL, q_fzW, q_fzSt, q_fzSc, s_nil, s_cons, k_nx, k_rt, k_bk, k_ct, s_asg, s_asgF, s_asgT, k_asg, s_par, s_expr, s_iff, s_retN, s_raise, s_brk, s_cont, s_pass, s_frz, k_frzO, k_frzV, s_retV, k_retO, k_retV, s_ret_non, s_ret_bl, s_ret_int, s_ret_str, s_ret_con, s_ret_bin, s_ret_neg, s_ret_cmp, s_ret_chain, s_ret_and, s_ret_or, s_ret_not, s_ret_ite, s_ret_tup, s_ret_lst, s_ret_idx, s_ret_slc, s_ret_call, s_ret_callK, s_ret_op0, s_ret_op1, s_ret_callM, s_ret_blt, s_ret_isx, s_ret_isk, s_ret_comp, s_app, k_runR, k_runN, for_nil, k_forN, k_forC, k_forB, k_forR, g_nm, g_tp, o_some, noErr_ret, Yes, retK, ret_bind, err_bind, bad_bind, draw_bind, getV, slOf, slO, setAll, parT, List.length_cons, List.length_nil, List.map_cons, List.map_nil, List.getElem?_cons_zero, List.getElem?_cons_succ, List.set_cons_zero, List.set_cons_succ, List.cons_append, List.nil_append, List.replicate_succ, List.replicate_zero, q1, q2, q3]
theorem step9 {call : Nat → List D → T D} {c k : Nat} {s : D} (hk : k + 1 ≤ c) (hc : c ≤ 1000) : ex call WH b9 [.val (.int c), .val s, .val (.int (ch c k : Nat)), .val (.int k)] = .ret (.nx [.val (.int c), .val s, .val (.int (ch c (k + 1) : Nat)), .val (.int k)]) := by
  refine step9i (q_mulR (by omega) (by omega)) (q_fdivW (by omega) (by omega)) ?_
  rw [show (c : Int) - (k : Int) = ((c - k : Nat) : Int) by omega, show (k : Int) + 1 = ((k + 1 : Nat) : Int) by omega, ← Int.natCast_mul, ← Int.natCast_ediv, ch_div]
theorem loop9 {call : Nat → List D → T D} {c : Nat} {s : D} (hc : c ≤ 1000) : ∀ (l : List Int) (k : Nat) (x3 : Sl), k + l.length ≤ c → (∀ i (h : i < l.length), l[i] = ((k + i : Nat) : Int)) → ∃ y3, forL (bindTg (.nm 3)) (ex call WH b9) (l.map D.int) [.val (.int c), .val s, .val (.int (ch c k : Nat)), x3] = .ret (.nx [.val (.int c), .val s, .val (.int (ch c (k + l.length) : Nat)), y3])
  | [], k, x3, _, _ => ⟨x3, rfl⟩
  | a :: l, k, x3, hk, hl => by
    have ha : a = (k : Nat) := hl 0 (by simp)
    rw [List.length_cons] at hk
    obtain ⟨y3, e⟩ := loop9 (call := call) (s := s) hc l (k + 1) (.val (.int a)) (by omega) (fun i h => by
      have := hl (i + 1) (by simp; omega)
      rw [List.getElem_cons_succ] at this
      rw [this]
      omega)
    refine ⟨y3, ?_⟩
    rw [List.map_cons, for_cons, List.length_cons, show k + (l.length + 1) = k + 1 + l.length by omega, ← e, ha]
    have st := step9 (call := call) (c := c) (k := k) (s := s) (by omega) hc
    rw [g_nm, ret_bind]
    simp only [List.length_cons, List.length_nil, List.map_cons, List.map_nil, List.getElem?_cons_zero, List.getElem?_cons_succ, List.set_cons_zero, List.set_cons_succ, List.cons_append, List.nil_append, List.replicate_succ, List.replicate_zero]
    rw [st, ret_bind, k_forN]
theorem f9i {n : Nat} {c s : Int} {l : List Int} {y : Int} {y3 : Sl} (h : ¬ c < s) (hr : rng1T (.int s) = .ret (l.map D.int)) (e : forL (bindTg (.nm 3)) (ex (callF tab WH n) WH b9) (l.map D.int) [.val (.int c), .val (.int s), .val (.int 1), .un] = .ret (.nx [.val (.int c), .val (.int s), .val (.int y), y3])) : callF tab WH (n + 1) 9 [.int c, .int s] = .ret (.int y) := by
  show runD (callF tab WH n) WH d9 _ = _
  rw [run_eq rfl]
  simp only [d9, startE]
  unfold b9 at e
  simp only [e_non, e_bl, e_int, e_str, e_var, e_con, e_bin, e_neg, e_cmp, e_chain, e_and, e_or, e_not, e_ite, e_tup, e_lst, e_idx, e_slc, e_call, e_callK, e_blt, e_isk, e_caught, e_isx, e_op0, e_op1, e_callM, b_op1, b_callM, i_callK, i_op1, o_emp, o_revT, b_var, b_cmp, b_chain, b_and, b_or, b_not, b_yes, b_call, b_callK, b_blt, b_isx, b_isk, a_nil, a_cons, r_nil, r_cons, o_nopart, o_part, i_rng1, i_rng2, i_zip, i_enum, i_cap, i_var, i_blt, i_call, i_tup, i_lst, i_idx, i_slc, q_add, q_sub, q_neg, q_lt, q_le, q_gt, q_ge, q_eqI, q_neI, q_isNN, q_isNT, q_isNI, q_isNL, q_isBB, q_isNB, q_isNS, q_isnNN, q_isnNT, q_isnNI, q_isnNL, q_andT, q_andF, q_orT, q_orF, q_not, q_toB, q_part, q_fzI, q_fzB, q_fzS, q_fzN, q_fzT, q_fzL, q_fzW, q_fzSt, q_fzSc, s_nil, s_cons, k_nx, k_rt, k_bk, k_ct, s_asg, s_asgF, s_asgT, k_asg, s_par, s_expr, s_iff, s_retN, s_raise, s_brk, s_cont, s_pass, s_frz, k_frzO, k_frzV, s_retV, k_retO, k_retV, s_ret_non, s_ret_bl, s_ret_int, s_ret_str, s_ret_con, s_ret_bin, s_ret_neg, s_ret_cmp, s_ret_chain, s_ret_and, s_ret_or, s_ret_not, s_ret_ite, s_ret_tup, s_ret_lst, s_ret_idx, s_ret_slc, s_ret_call, s_ret_callK, s_ret_op0, s_ret_op1, s_ret_callM, s_ret_blt, s_ret_isx, s_ret_isk, s_ret_comp, s_app, k_runR, k_runN, for_nil, k_forN, k_forC, k_forB, k_forR, g_nm, g_tp, o_some, noErr_ret, Yes, retK, ret_bind, err_bind, bad_bind, draw_bind, getV, slOf, slO, setAll, parT, List.length_cons, List.length_nil, List.map_cons, List.map_nil, List.getElem?_cons_zero, List.getElem?_cons_succ, List.set_cons_zero, List.set_cons_succ, List.cons_append, List.nil_append, List.replicate_succ, List.replicate_zero, h, decide_false, Bool.false_eq_true, if_false, s_for, hr, e]
theorem f9 {n : Nat} {c s : Int} (c0 : 0 ≤ c) (c1 : c ≤ 1000) (s0 : 0 ≤ s) (s1 : s ≤ 1001) : callF tab WH (n + 1) 9 [.int c, .int s] = .ret (.int (chI c s)) := by
  by_cases h : c < s
  · show runD (callF tab WH n) WH d9 _ = _
    rw [run_eq rfl]
    simp only [d9, startE]
    simp only [e_non, e_bl, e_int, e_str, e_var, e_con, e_bin, e_neg, e_cmp, e_chain, e_and, e_or, e_not, e_ite, e_tup, e_lst, e_idx, e_slc, e_call, e_callK, e_blt, e_isk, e_caught, e_isx, e_op0, e_op1, e_callM, b_op1, b_callM, i_callK, i_op1, o_emp, o_revT, b_var, b_cmp, b_chain, b_and, b_or, b_not, b_yes, b_call, b_callK, b_blt, b_isx, b_isk, a_nil, a_cons, r_nil, r_cons, o_nopart, o_part, i_rng1, i_rng2, i_zip, i_enum, i_cap, i_var, i_blt, i_call, i_tup, i_lst, i_idx, i_slc, q_add, q_sub, q_neg, q_lt, q_le, q_gt, q_ge, q_eqI, q_neI, q_isNN, q_isNT, q_isNI, q_isNL, q_isBB, q_isNB, q_isNS, q_isnNN, q_isnNT, q_isnNI, q_isnNL, q_andT, q_andF, q_orT, q_orF, q_not, q_toB, q_part, q_fzI, q_fzB, q_fzS, q_fzN, q_fzT, q_fzL, q_fzW, q_fzSt, q_fzSc, s_nil, s_cons, k_nx, k_rt, k_bk, k_ct, s_asg, s_asgF, s_asgT, k_asg, s_par, s_expr, s_iff, s_retN, s_raise, s_brk, s_cont, s_pass, s_frz, k_frzO, k_frzV, s_retV, k_retO, k_retV, s_ret_non, s_ret_bl, s_ret_int, s_ret_str, s_ret_con, s_ret_bin, s_ret_neg, s_ret_cmp, s_ret_chain, s_ret_and, s_ret_or, s_ret_not, s_ret_ite, s_ret_tup, s_ret_lst, s_ret_idx, s_ret_slc, s_ret_call, s_ret_callK, s_ret_op0, s_ret_op1, s_ret_callM, s_ret_blt, s_ret_isx, s_ret_isk, s_ret_comp, s_app, k_runR, k_runN, for_nil, k_forN, k_forC, k_forB, k_forR, g_nm, g_tp, o_some, noErr_ret, Yes, retK, ret_bind, err_bind, bad_bind, draw_bind, getV, slOf, slO, setAll, parT, List.length_cons, List.length_nil, List.map_cons, List.map_nil, List.getElem?_cons_zero, List.getElem?_cons_succ, List.set_cons_zero, List.set_cons_succ, List.cons_append, List.nil_append, List.replicate_succ, List.replicate_zero, h, decide_true, if_true, chI_big c0 h]
  · obtain ⟨c, rfl⟩ := Int.eq_ofNat_of_zero_le c0
    obtain ⟨s, rfl⟩ := Int.eq_ofNat_of_zero_le s0
    have hl : (rng 0 (s : Int)).length = s := by unfold rng; simp
    obtain ⟨y3, e⟩ := loop9 (call := callF tab WH n) (c := c) (s := .int s) (by omega) (rng 0 (s : Int)) 0 .un (by rw [hl]; omega) (fun i h => by unfold rng; simp)
    rw [hl, ch_zero, Nat.zero_add] at e
    exact f9i h (rng1_T (by omega) (by omega)) e
/-! Euclid -/
def b10 : S := (.cons (.par [2, 3] (.cons (.var 3) (.cons (.bin .mod (.blt .int (.cons (.var 2) .nil)) (.var 3)) .nil))) .nil)
theorem int_int {i : Int} : bltT .int [.int i] = .ret (.int i) := rfl
theorem while_S {test : PV.Env → T Bool} {body : PV.Env → T Fl} {n : Nat} {r r2 : PV.Env} (h : test r = .ret true) (hb : body r = .ret (.nx r2)) : whileL test body (n + 1) r = whileL test body n r2 := by
  show (test r >>= _) = _
  rw [h]
  show (body r >>= _) = _
  rw [hb]
  rfl
theorem while_E {test : PV.Env → T Bool} {body : PV.Env → T Fl} {n : Nat} {r : PV.Env} (h : test r = .ret false) : whileL test body (n + 1) r = .ret (.nx r) := by
  show (test r >>= _) = _
  rw [h]
  rfl
theorem eu_test {call : Nat → List D → T D} {d e : D} {a b : Int} : (evs call (.cmp .ne (.var 3) (.int 0))).B [.val d, .val e, .val (.int a), .val (.int b)] = .ret (!decide (b = 0)) := by
  simp only [e_non, e_bl, e_int, e_str, e_var, e_con, e_bin, e_neg, e_cmp, e_chain, e_and, e_or, e_not, e_ite, e_tup, e_lst, e_idx, e_slc, e_call, e_callK, e_blt, e_isk, e_caught, e_isx, e_op0, e_op1, e_callM, b_op1, b_callM, i_callK, i_op1, o_emp, o_revT, b_var, b_cmp, b_chain, b_and, b_or, b_not, b_yes, b_call, b_callK, b_blt, b_isx, b_isk, a_nil, a_cons, r_nil, r_cons, o_nopart, o_part, i_rng1, i_rng2, i_zip, i_enum, i_cap, i_var, i_blt, i_call, i_tup, i_lst, i_idx, i_slc, q_add, q_sub, q_neg, q_lt, q_le, q_gt, q_ge, q_eqI, q_neI, q_isNN, q_isNT, q_isNI, q_isNL, q_isBB, q_isNB, q_isNS, q_isnNN, q_isnNT, q_isnNI, q_isnNL, q_andT, q_andF, q_orT, q_orF, q_not, q_toB, q_part, q_fzI, q_fzB, q_fzS, q_fzN, q_fzT, q_fzL, q_fzW, q_fzSt, q_fzSc, s_nil, s_cons, k_nx, k_rt, k_bk, k_ct, s_asg, s_asgF, s_asgT, k_asg, s_par, s_expr, s_iff, s_retN, s_raise, s_brk, s_cont, s_pass, s_frz, k_frzO, k_frzV, s_retV, k_retO, k_retV, s_ret_non, s_ret_bl, s_ret_int, s_ret_str, s_ret_con, s_ret_bin, s_ret_neg, s_ret_cmp, s_ret_chain, s_ret_and, s_ret_or, s_ret_not, s_ret_ite, s_ret_tup, s_ret_lst, s_ret_idx, s_ret_slc, s_ret_call, s_ret_callK, s_ret_op0, s_ret_op1, s_ret_callM, s_ret_blt, s_ret_isx, s_ret_isk, s_ret_comp, s_app, k_runR, k_runN, for_nil, k_forN, k_forC, k_forB, k_forR, g_nm, g_tp, o_some, noErr_ret, Yes, retK, ret_bind, err_bind, bad_bind, draw_bind, getV, slOf, slO, setAll, parT, List.length_cons, List.length_nil, List.map_cons, List.map_nil, List.getElem?_cons_zero, List.getElem?_cons_succ, List.set_cons_zero, List.set_cons_succ, List.cons_append, List.nil_append, List.replicate_succ, List.replicate_zero]
theorem eu_step {call : Nat → List D → T D} {d e : D} {a b : Int} (hb : 0 < b) : ex call WH b10 [.val d, .val e, .val (.int a), .val (.int b)] = .ret (.nx [.val d, .val e, .val (.int b), .val (.int (a % b))]) := by
  have q := q_mod (i := a) (j := b) hb
  unfold b10
  simp only [e_non, e_bl, e_int, e_str, e_var, e_con, e_bin, e_neg, e_cmp, e_chain, e_and, e_or, e_not, e_ite, e_tup, e_lst, e_idx, e_slc, e_call, e_callK, e_blt, e_isk, e_caught, e_isx, e_op0, e_op1, e_callM, b_op1, b_callM, i_callK, i_op1, o_emp, o_revT, b_var, b_cmp, b_chain, b_and, b_or, b_not, b_yes, b_call, b_callK, b_blt, b_isx, b_isk, a_nil, a_cons, r_nil, r_cons, o_nopart, o_part, i_rng1, i_rng2, i_zip, i_enum, i_cap, i_var, i_blt, i_call, i_tup, i_lst, i_idx, i_slc, q_add, q_sub, q_neg, q_lt, q_le, q_gt, q_ge, q_eqI, q_neI, q_isNN, q_isNT, q_isNI, q_isNL, q_isBB, q_isNB, q_isNS, q_isnNN, q_isnNT, q_isnNI, q_isnNL, q_andT, q_andF, q_orT, q_orF, q_not, q_toB, q_part, q_fzI, q_fzB, q_fzS, q_fzN, q_fzT, q_fzL, q_fzW, q_fzSt, q_fzSc, s_nil, s_cons, k_nx, k_rt, k_bk, k_ct, s_asg, s_asgF, s_asgT, k_asg, s_par, s_expr, s_iff, s_retN, s_raise, s_brk, s_cont, s_pass, s_frz, k_frzO, k_frzV, s_retV, k_retO, k_retV, s_ret_non, s_ret_bl, s_ret_int, s_ret_str, s_ret_con, s_ret_bin, s_ret_neg, s_ret_cmp, s_ret_chain, s_ret_and, s_ret_or, s_ret_not, s_ret_ite, s_ret_tup, s_ret_lst, s_ret_idx, s_ret_slc, s_ret_call, s_ret_callK, s_ret_op0, s_ret_op1, s_ret_callM, s_ret_blt, s_ret_isx, s_ret_isk, s_ret_comp, s_app, k_runR, k_runN, for_nil, k_forN, k_forC, k_forB, k_forR, g_nm, g_tp, o_some, noErr_ret, Yes, retK, ret_bind, err_bind, bad_bind, draw_bind, getV, slOf, slO, setAll, parT, List.length_cons, List.length_nil, List.map_cons, List.map_nil, List.getElem?_cons_zero, List.getElem?_cons_succ, List.set_cons_zero, List.set_cons_succ, List.cons_append, List.nil_append, List.replicate_succ, List.replicate_zero, int_int, q]
theorem eu_loop {call : Nat → List D → T D} {d e : D} : ∀ (k : Nat) (m : Nat) (a b : Int), 0 ≤ a → 0 ≤ b → b < 2 ^ k → whileL (evs call (.cmp .ne (.var 3) (.int 0))).B (ex call WH b10) (2 * k + 1 + m) [.val d, .val e, .val (.int a), .val (.int b)] = .ret (.nx [.val d, .val e, .val (.int (gz a b)), .val (.int 0)])
  | 0, m, a, b, ha, hb, hk => by
    have : b = 0 := by
      have : (2 : Int) ^ 0 = 1 := rfl
      omega
    subst this
    rw [show 2 * 0 + 1 + m = m + 1 by omega, while_E eu_test, gz_zero ha]
  | k + 1, m, a, b, ha, hb, hk => by
    by_cases c0 : b = 0
    · subst c0
      rw [show 2 * (k + 1) + 1 + m = (2 * k + 2 + m) + 1 by omega, while_E eu_test, gz_zero ha]
    · have hb' : 0 < b := by omega
      have r0 := Int.emod_nonneg a (b := b) (by omega)
      have r1 := Int.emod_lt_of_pos a hb'
      rw [show 2 * (k + 1) + 1 + m = (2 * k + 1 + m + 1) + 1 by omega, while_S (by rw [eu_test, decide_eq_false c0]; rfl) (eu_step hb'), ← gz_step ha hb']
      generalize a % b = c at *
      by_cases c1 : c = 0
      · subst c1
        rw [while_E eu_test, gz_zero hb]
      · have hc : 0 < c := by omega
        rw [while_S (by rw [eu_test, decide_eq_false c1]; rfl) (eu_step hc), ← gz_step hb hc]
        have hh : b % c < 2 ^ k := mod_half hc r1 (by rw [Int.pow_succ] at hk; omega)
        exact eu_loop k m c (b % c) r0 (Int.emod_nonneg b (by omega)) hh
theorem f10 {n : Nat} {p q : Int} (hp : 0 ≤ p) (hq : 1 ≤ q) (hq2 : q < 2 ^ 192) : callF tab WH (n + 1) 10 [.int p, .int q] = .ret (lowD p q) := by
  show runD (callF tab WH n) WH d10 _ = _
  rw [run_eq rfl]
  have h := eu_loop (call := callF tab WH n) (d := .int p) (e := .int q) 192 (2000 - 385) p q hp (by omega) hq2
  unfold b10 at h
  have hw : (2 * 192 + 1 + (2000 - 385)) = WH := rfl
  rw [hw] at h
  have hq3 : q < 2 ^ 200 := by omega
  simp only [d10, startE]
  simp only [e_non, e_bl, e_int, e_str, e_var, e_con, e_bin, e_neg, e_cmp, e_chain, e_and, e_or, e_not, e_ite, e_tup, e_lst, e_idx, e_slc, e_call, e_callK, e_blt, e_isk, e_caught, e_isx, e_op0, e_op1, e_callM, b_op1, b_callM, i_callK, i_op1, o_emp, o_revT, b_var, b_cmp, b_chain, b_and, b_or, b_not, b_yes, b_call, b_callK, b_blt, b_isx, b_isk, a_nil, a_cons, r_nil, r_cons, o_nopart, o_part, i_rng1, i_rng2, i_zip, i_enum, i_cap, i_var, i_blt, i_call, i_tup, i_lst, i_idx, i_slc, q_add, q_sub, q_neg, q_lt, q_le, q_gt, q_ge, q_eqI, q_neI, q_isNN, q_isNT, q_isNI, q_isNL, q_isBB, q_isNB, q_isNS, q_isnNN, q_isnNT, q_isnNI, q_isnNL, q_andT, q_andF, q_orT, q_orF, q_not, q_toB, q_part, q_fzI, q_fzB, q_fzS, q_fzN, q_fzT, q_fzL, q_fzW, q_fzSt, q_fzSc, s_nil, s_cons, k_nx, k_rt, k_bk, k_ct, s_asg, s_asgF, s_asgT, k_asg, s_par, s_expr, s_iff, s_retN, s_raise, s_brk, s_cont, s_pass, s_frz, k_frzO, k_frzV, s_retV, k_retO, k_retV, s_ret_non, s_ret_bl, s_ret_int, s_ret_str, s_ret_con, s_ret_bin, s_ret_neg, s_ret_cmp, s_ret_chain, s_ret_and, s_ret_or, s_ret_not, s_ret_ite, s_ret_tup, s_ret_lst, s_ret_idx, s_ret_slc, s_ret_call, s_ret_callK, s_ret_op0, s_ret_op1, s_ret_callM, s_ret_blt, s_ret_isx, s_ret_isk, s_ret_comp, s_app, k_runR, k_runN, for_nil, k_forN, k_forC, k_forB, k_forR, g_nm, g_tp, o_some, noErr_ret, Yes, retK, ret_bind, err_bind, bad_bind, draw_bind, getV, slOf, slO, setAll, parT, List.length_cons, List.length_nil, List.map_cons, List.map_nil, List.getElem?_cons_zero, List.getElem?_cons_succ, List.set_cons_zero, List.set_cons_succ, List.cons_append, List.nil_append, List.replicate_succ, List.replicate_zero, s_while, h, fdiv_g hq hq3, t2]
  rfl
theorem deq_t2 {a b c d : Int} : deq (.tup [.int a, .int b]) (.tup [.int c, .int d]) = .ret (decide (a = c) && decide (b = d)) := by
  unfold deq
  simp [okPy, D.toPy, D.toPys, SeqAt.shaped, PyData.canLay0, PyData.canLayAll0, PyData.depth, PyData.depthAll, PyData.eqv, PyData.eqvAll]
  by_cases h : a = c <;> by_cases k : b = d <;> simp [h, k]
end LW
end
section
set_option maxHeartbeats 1000000
namespace LW
open PySem PV
def isC : D → Bool
  | .tup [.int p, .int q] => decide (0 ≤ p ∧ 1 ≤ q ∧ p < 1000000000000000000 ∧ q < 1000000000000000000 ∧ gz p q = 1)
  | _ => false
inductive Ck : D → Prop
  | l : Ck (.lst [.int 1, .int 2])
  | n : Ck .non
  | s : Ck (.tup [.int 1, .str "2"])
  | x : Ck (.str "12")
  | t : Ck (.tup [.int 1, .int 2, .int 3])
  | b : Ck (.tup [.bl true, .int 2])
  | p (p q : Int) : Ck (.tup [.int p, .int q])
theorem Ck.kd {v : D} (h : Ck v) : kd v = true := by cases h <;> rfl
theorem low_one {p q : Int} (hq : 1 ≤ q) : (p / gz p q = p ∧ q / gz p q = q) ↔ gz p q = 1 := by
  have e := (low_mul p q).2
  have g1 := gz_pos (p := p) hq
  constructor
  · intro h
    rw [h.2] at e
    generalize gz p q = g at *
    have : q * g = q * 1 := by omega
    exact Int.eq_of_mul_eq_mul_left (by omega) this
  · intro h
    rw [h, Int.ediv_one, Int.ediv_one]
    exact ⟨rfl, rfl⟩
theorem ix2 {a b : D} : idxT (.tup [a, b]) (.int 0) = .ret a ∧ idxT (.tup [a, b]) (.int 1) = .ret b := ⟨rfl, rfl⟩
theorem l0 : lenT [] (.new []) = .ret (.new []) := rfl
theorem ne_nn : cmpT .ne (.new []) (.new []) = .ret false := by
  show (deq _ _ >>= fun c => T.ret (!c)) = _
  unfold deq
  simp [okPy, D.toPy, D.toPys, SeqAt.shaped, PyData.canLay0, PyData.canLayAll0, PyData.depth, PyData.depthAll, PyData.eqv, PyData.eqvAll]
  rfl
def t13_2 : S := .cons (.ret (.cmp .eq (.call 10 (.cons (.idx (.var 0) (.int 0)) (.cons (.idx (.var 0) (.int 1)) .nil))) (.var 0))) .nil
def t13_1 : S := .cons (.iff (.or (.cmp .lt (.idx (.var 0) (.int 0)) (.int 0)) (.or (.cmp .lt (.idx (.var 0) (.int 1)) (.int 1)) (.cmp .ge (.blt .max (.cons (.var 0) .nil)) (.bin .pow (.int 10) (.int 18))))) (.cons (.ret (.bl false)) .nil) .nil) t13_2
def t13_0 : S := .cons (.iff (.or (.not (.isk .istup (.var 0))) (.or (.cmp .ne (.blt .len (.cons (.var 0) .nil)) (.int 2)) (.cmp .ne (.comp (.nm 1) (.var 0) (.not (.call 7 (.cons (.var 1) .nil))) (.int 1) [("item", 1)]) (.lst .nil)))) (.cons (.ret (.bl false)) .nil) .nil) t13_1
theorem body13 : d13.body = t13_0 := rfl
theorem f13p {n : Nat} {p q : Int} : callF tab WH (n + 2) 13 [.tup [.int p, .int q]] = .ret (.bl (isC (.tup [.int p, .int q]))) := by
  show runD (callF tab WH (n + 1)) WH d13 _ = _
  rw [run_eq rfl]
  have e1 := f7 (n := n) (d := .int p) rfl
  have e2 := f7 (n := n) (d := .int q) rfl
  have hcomp : compL (compF (.nm 1) [1] (evs (callF tab WH (n + 1)) (.not (.call 7 (.cons (.var 1) .nil)))).B (evs (callF tab WH (n + 1)) (.int 1)).E [.val (.tup [.int p, .int q]), .un]) [.int p, .int q] = .ret [] := by
    rw [comp_fmap (f := fun _ => none)]
    · rfl
    · intro d hd
      simp only [List.mem_cons, List.not_mem_nil, or_false] at hd
      rcases hd with rfl | rfl
      · simp only [compF_eq, wipeE, e_non, e_bl, e_int, e_str, e_var, e_con, e_bin, e_neg, e_cmp, e_chain, e_and, e_or, e_not, e_ite, e_tup, e_lst, e_idx, e_slc, e_call, e_callK, e_blt, e_isk, e_caught, e_isx, e_op0, e_op1, e_callM, b_op1, b_callM, i_callK, i_op1, o_emp, o_revT, b_var, b_cmp, b_chain, b_and, b_or, b_not, b_yes, b_call, b_callK, b_blt, b_isx, b_isk, a_nil, a_cons, r_nil, r_cons, o_nopart, o_part, i_rng1, i_rng2, i_zip, i_enum, i_cap, i_var, i_blt, i_call, i_tup, i_lst, i_idx, i_slc, q_add, q_sub, q_neg, q_lt, q_le, q_gt, q_ge, q_eqI, q_neI, q_isNN, q_isNT, q_isNI, q_isNL, q_isBB, q_isNB, q_isNS, q_isnNN, q_isnNT, q_isnNI, q_isnNL, q_andT, q_andF, q_orT, q_orF, q_not, q_toB, q_part, q_fzI, q_fzB, q_fzS, q_fzN, q_fzT, q_fzL, q_fzW, q_fzSt, q_fzSc, s_nil, s_cons, k_nx, k_rt, k_bk, k_ct, s_asg, s_asgF, s_asgT, k_asg, s_par, s_expr, s_iff, s_retN, s_raise, s_brk, s_cont, s_pass, s_frz, k_frzO, k_frzV, s_retV, k_retO, k_retV, s_ret_non, s_ret_bl, s_ret_int, s_ret_str, s_ret_con, s_ret_bin, s_ret_neg, s_ret_cmp, s_ret_chain, s_ret_and, s_ret_or, s_ret_not, s_ret_ite, s_ret_tup, s_ret_lst, s_ret_idx, s_ret_slc, s_ret_call, s_ret_callK, s_ret_op0, s_ret_op1, s_ret_callM, s_ret_blt, s_ret_isx, s_ret_isk, s_ret_comp, s_app, k_runR, k_runN, for_nil, k_forN, k_forC, k_forB, k_forR, g_nm, g_tp, o_some, noErr_ret, Yes, retK, ret_bind, err_bind, bad_bind, draw_bind, getV, slOf, slO, setAll, parT, List.length_cons, List.length_nil, List.map_cons, List.map_nil, List.getElem?_cons_zero, List.getElem?_cons_succ, List.set_cons_zero, List.set_cons_succ, List.cons_append, List.nil_append, List.replicate_succ, List.replicate_zero, e1, inD, Bool.not_true, Bool.false_eq_true, if_false]
      · simp only [compF_eq, wipeE, e_non, e_bl, e_int, e_str, e_var, e_con, e_bin, e_neg, e_cmp, e_chain, e_and, e_or, e_not, e_ite, e_tup, e_lst, e_idx, e_slc, e_call, e_callK, e_blt, e_isk, e_caught, e_isx, e_op0, e_op1, e_callM, b_op1, b_callM, i_callK, i_op1, o_emp, o_revT, b_var, b_cmp, b_chain, b_and, b_or, b_not, b_yes, b_call, b_callK, b_blt, b_isx, b_isk, a_nil, a_cons, r_nil, r_cons, o_nopart, o_part, i_rng1, i_rng2, i_zip, i_enum, i_cap, i_var, i_blt, i_call, i_tup, i_lst, i_idx, i_slc, q_add, q_sub, q_neg, q_lt, q_le, q_gt, q_ge, q_eqI, q_neI, q_isNN, q_isNT, q_isNI, q_isNL, q_isBB, q_isNB, q_isNS, q_isnNN, q_isnNT, q_isnNI, q_isnNL, q_andT, q_andF, q_orT, q_orF, q_not, q_toB, q_part, q_fzI, q_fzB, q_fzS, q_fzN, q_fzT, q_fzL, q_fzW, q_fzSt, q_fzSc, s_nil, s_cons, k_nx, k_rt, k_bk, k_ct, s_asg, s_asgF, s_asgT, k_asg, s_par, s_expr, s_iff, s_retN, s_raise, s_brk, s_cont, s_pass, s_frz, k_frzO, k_frzV, s_retV, k_retO, k_retV, s_ret_non, s_ret_bl, s_ret_int, s_ret_str, s_ret_con, s_ret_bin, s_ret_neg, s_ret_cmp, s_ret_chain, s_ret_and, s_ret_or, s_ret_not, s_ret_ite, s_ret_tup, s_ret_lst, s_ret_idx, s_ret_slc, s_ret_call, s_ret_callK, s_ret_op0, s_ret_op1, s_ret_callM, s_ret_blt, s_ret_isx, s_ret_isk, s_ret_comp, s_app, k_runR, k_runN, for_nil, k_forN, k_forC, k_forB, k_forR, g_nm, g_tp, o_some, noErr_ret, Yes, retK, ret_bind, err_bind, bad_bind, draw_bind, getV, slOf, slO, setAll, parT, List.length_cons, List.length_nil, List.map_cons, List.map_nil, List.getElem?_cons_zero, List.getElem?_cons_succ, List.set_cons_zero, List.set_cons_succ, List.cons_append, List.nil_append, List.replicate_succ, List.replicate_zero, e2, inD, Bool.not_true, Bool.false_eq_true, if_false]
  have k1 : bltT .istup [.tup [.int p, .int q]] = .ret (.bl true) := rfl
  have k2 : bltT .len [.tup [.int p, .int q]] = .ret (.int 2) := rfl
  have k4 : bltT .max [.tup [.int p, .int q]] = .ret (.int (max p q)) := rfl
  have k5 : frozen (.tup [.int p, .int q]) = some [.int p, .int q] := rfl
  have i1 := (ix2 (a := .int p) (b := .int q)).1
  have i2 := (ix2 (a := .int p) (b := .int q)).2
  rw [body13]
  simp only [d13, startE]
  unfold t13_0
  simp only [e_non, e_bl, e_int, e_str, e_var, e_con, e_bin, e_neg, e_cmp, e_chain, e_and, e_or, e_not, e_ite, e_tup, e_lst, e_idx, e_slc, e_call, e_callK, e_blt, e_isk, e_caught, e_isx, e_op0, e_op1, e_callM, b_op1, b_callM, i_callK, i_op1, o_emp, o_revT, b_var, b_cmp, b_chain, b_and, b_or, b_not, b_yes, b_call, b_callK, b_blt, b_isx, b_isk, a_nil, a_cons, r_nil, r_cons, o_nopart, o_part, i_rng1, i_rng2, i_zip, i_enum, i_cap, i_var, i_blt, i_call, i_tup, i_lst, i_idx, i_slc, q_add, q_sub, q_neg, q_lt, q_le, q_gt, q_ge, q_eqI, q_neI, q_isNN, q_isNT, q_isNI, q_isNL, q_isBB, q_isNB, q_isNS, q_isnNN, q_isnNT, q_isnNI, q_isnNL, q_andT, q_andF, q_orT, q_orF, q_not, q_toB, q_part, q_fzI, q_fzB, q_fzS, q_fzN, q_fzT, q_fzL, q_fzW, q_fzSt, q_fzSc, s_nil, s_cons, k_nx, k_rt, k_bk, k_ct, s_asg, s_asgF, s_asgT, k_asg, s_par, s_expr, s_iff, s_retN, s_raise, s_brk, s_cont, s_pass, s_frz, k_frzO, k_frzV, s_retV, k_retO, k_retV, s_ret_non, s_ret_bl, s_ret_int, s_ret_str, s_ret_con, s_ret_bin, s_ret_neg, s_ret_cmp, s_ret_chain, s_ret_and, s_ret_or, s_ret_not, s_ret_ite, s_ret_tup, s_ret_lst, s_ret_idx, s_ret_slc, s_ret_call, s_ret_callK, s_ret_op0, s_ret_op1, s_ret_callM, s_ret_blt, s_ret_isx, s_ret_isk, s_ret_comp, s_app, k_runR, k_runN, for_nil, k_forN, k_forC, k_forB, k_forR, g_nm, g_tp, o_some, noErr_ret, Yes, retK, ret_bind, err_bind, bad_bind, draw_bind, getV, slOf, slO, setAll, parT, List.length_cons, List.length_nil, List.map_cons, List.map_nil, List.getElem?_cons_zero, List.getElem?_cons_succ, List.set_cons_zero, List.set_cons_succ, List.cons_append, List.nil_append, List.replicate_succ, List.replicate_zero, e_comp, k1, k2, k5, hcomp, noErr_ret, l0, ne_nn, Bool.not_true, decide_true, Bool.false_eq_true, if_false]
  unfold t13_1
  unfold isC
  by_cases h1 : p < 0
  · have : ¬ (0 ≤ p ∧ 1 ≤ q ∧ p < 1000000000000000000 ∧ q < 1000000000000000000 ∧ gz p q = 1) := by omega
    simp only [e_non, e_bl, e_int, e_str, e_var, e_con, e_bin, e_neg, e_cmp, e_chain, e_and, e_or, e_not, e_ite, e_tup, e_lst, e_idx, e_slc, e_call, e_callK, e_blt, e_isk, e_caught, e_isx, e_op0, e_op1, e_callM, b_op1, b_callM, i_callK, i_op1, o_emp, o_revT, b_var, b_cmp, b_chain, b_and, b_or, b_not, b_yes, b_call, b_callK, b_blt, b_isx, b_isk, a_nil, a_cons, r_nil, r_cons, o_nopart, o_part, i_rng1, i_rng2, i_zip, i_enum, i_cap, i_var, i_blt, i_call, i_tup, i_lst, i_idx, i_slc, q_add, q_sub, q_neg, q_lt, q_le, q_gt, q_ge, q_eqI, q_neI, q_isNN, q_isNT, q_isNI, q_isNL, q_isBB, q_isNB, q_isNS, q_isnNN, q_isnNT, q_isnNI, q_isnNL, q_andT, q_andF, q_orT, q_orF, q_not, q_toB, q_part, q_fzI, q_fzB, q_fzS, q_fzN, q_fzT, q_fzL, q_fzW, q_fzSt, q_fzSc, s_nil, s_cons, k_nx, k_rt, k_bk, k_ct, s_asg, s_asgF, s_asgT, k_asg, s_par, s_expr, s_iff, s_retN, s_raise, s_brk, s_cont, s_pass, s_frz, k_frzO, k_frzV, s_retV, k_retO, k_retV, s_ret_non, s_ret_bl, s_ret_int, s_ret_str, s_ret_con, s_ret_bin, s_ret_neg, s_ret_cmp, s_ret_chain, s_ret_and, s_ret_or, s_ret_not, s_ret_ite, s_ret_tup, s_ret_lst, s_ret_idx, s_ret_slc, s_ret_call, s_ret_callK, s_ret_op0, s_ret_op1, s_ret_callM, s_ret_blt, s_ret_isx, s_ret_isk, s_ret_comp, s_app, k_runR, k_runN, for_nil, k_forN, k_forC, k_forB, k_forR, g_nm, g_tp, o_some, noErr_ret, Yes, retK, ret_bind, err_bind, bad_bind, draw_bind, getV, slOf, slO, setAll, parT, List.length_cons, List.length_nil, List.map_cons, List.map_nil, List.getElem?_cons_zero, List.getElem?_cons_succ, List.set_cons_zero, List.set_cons_succ, List.cons_append, List.nil_append, List.replicate_succ, List.replicate_zero, i1, h1, this, decide_true, decide_false, if_true]
  · by_cases h2 : q < 1
    · have : ¬ (0 ≤ p ∧ 1 ≤ q ∧ p < 1000000000000000000 ∧ q < 1000000000000000000 ∧ gz p q = 1) := by omega
      simp only [e_non, e_bl, e_int, e_str, e_var, e_con, e_bin, e_neg, e_cmp, e_chain, e_and, e_or, e_not, e_ite, e_tup, e_lst, e_idx, e_slc, e_call, e_callK, e_blt, e_isk, e_caught, e_isx, e_op0, e_op1, e_callM, b_op1, b_callM, i_callK, i_op1, o_emp, o_revT, b_var, b_cmp, b_chain, b_and, b_or, b_not, b_yes, b_call, b_callK, b_blt, b_isx, b_isk, a_nil, a_cons, r_nil, r_cons, o_nopart, o_part, i_rng1, i_rng2, i_zip, i_enum, i_cap, i_var, i_blt, i_call, i_tup, i_lst, i_idx, i_slc, q_add, q_sub, q_neg, q_lt, q_le, q_gt, q_ge, q_eqI, q_neI, q_isNN, q_isNT, q_isNI, q_isNL, q_isBB, q_isNB, q_isNS, q_isnNN, q_isnNT, q_isnNI, q_isnNL, q_andT, q_andF, q_orT, q_orF, q_not, q_toB, q_part, q_fzI, q_fzB, q_fzS, q_fzN, q_fzT, q_fzL, q_fzW, q_fzSt, q_fzSc, s_nil, s_cons, k_nx, k_rt, k_bk, k_ct, s_asg, s_asgF, s_asgT, k_asg, s_par, s_expr, s_iff, s_retN, s_raise, s_brk, s_cont, s_pass, s_frz, k_frzO, k_frzV, s_retV, k_retO, k_retV, s_ret_non, s_ret_bl, s_ret_int, s_ret_str, s_ret_con, s_ret_bin, s_ret_neg, s_ret_cmp, s_ret_chain, s_ret_and, s_ret_or, s_ret_not, s_ret_ite, s_ret_tup, s_ret_lst, s_ret_idx, s_ret_slc, s_ret_call, s_ret_callK, s_ret_op0, s_ret_op1, s_ret_callM, s_ret_blt, s_ret_isx, s_ret_isk, s_ret_comp, s_app, k_runR, k_runN, for_nil, k_forN, k_forC, k_forB, k_forR, g_nm, g_tp, o_some, noErr_ret, Yes, retK, ret_bind, err_bind, bad_bind, draw_bind, getV, slOf, slO, setAll, parT, List.length_cons, List.length_nil, List.map_cons, List.map_nil, List.getElem?_cons_zero, List.getElem?_cons_succ, List.set_cons_zero, List.set_cons_succ, List.cons_append, List.nil_append, List.replicate_succ, List.replicate_zero, i1, i2, h1, h2, this, decide_true, decide_false, Bool.false_eq_true, if_false, if_true]
    · by_cases h3 : 1000000000000000000 ≤ max p q
      · have : ¬ (0 ≤ p ∧ 1 ≤ q ∧ p < 1000000000000000000 ∧ q < 1000000000000000000 ∧ gz p q = 1) := by omega
        simp only [e_non, e_bl, e_int, e_str, e_var, e_con, e_bin, e_neg, e_cmp, e_chain, e_and, e_or, e_not, e_ite, e_tup, e_lst, e_idx, e_slc, e_call, e_callK, e_blt, e_isk, e_caught, e_isx, e_op0, e_op1, e_callM, b_op1, b_callM, i_callK, i_op1, o_emp, o_revT, b_var, b_cmp, b_chain, b_and, b_or, b_not, b_yes, b_call, b_callK, b_blt, b_isx, b_isk, a_nil, a_cons, r_nil, r_cons, o_nopart, o_part, i_rng1, i_rng2, i_zip, i_enum, i_cap, i_var, i_blt, i_call, i_tup, i_lst, i_idx, i_slc, q_add, q_sub, q_neg, q_lt, q_le, q_gt, q_ge, q_eqI, q_neI, q_isNN, q_isNT, q_isNI, q_isNL, q_isBB, q_isNB, q_isNS, q_isnNN, q_isnNT, q_isnNI, q_isnNL, q_andT, q_andF, q_orT, q_orF, q_not, q_toB, q_part, q_fzI, q_fzB, q_fzS, q_fzN, q_fzT, q_fzL, q_fzW, q_fzSt, q_fzSc, s_nil, s_cons, k_nx, k_rt, k_bk, k_ct, s_asg, s_asgF, s_asgT, k_asg, s_par, s_expr, s_iff, s_retN, s_raise, s_brk, s_cont, s_pass, s_frz, k_frzO, k_frzV, s_retV, k_retO, k_retV, s_ret_non, s_ret_bl, s_ret_int, s_ret_str, s_ret_con, s_ret_bin, s_ret_neg, s_ret_cmp, s_ret_chain, s_ret_and, s_ret_or, s_ret_not, s_ret_ite, s_ret_tup, s_ret_lst, s_ret_idx, s_ret_slc, s_ret_call, s_ret_callK, s_ret_op0, s_ret_op1, s_ret_callM, s_ret_blt, s_ret_isx, s_ret_isk, s_ret_comp, s_app, k_runR, k_runN, for_nil, k_forN, k_forC, k_forB, k_forR, g_nm, g_tp, o_some, noErr_ret, Yes, retK, ret_bind, err_bind, bad_bind, draw_bind, getV, slOf, slO, setAll, parT, List.length_cons, List.length_nil, List.map_cons, List.map_nil, List.getElem?_cons_zero, List.getElem?_cons_succ, List.set_cons_zero, List.set_cons_succ, List.cons_append, List.nil_append, List.replicate_succ, List.replicate_zero, i1, i2, h1, h2, k4, pw18, h3, this, decide_true, decide_false, Bool.false_eq_true, if_false, if_true]
      · have e3 := f10 (n := n) (p := p) (q := q) (by omega) (by omega) (by omega)
        have e4 : deq (lowD p q) (.tup [.int p, .int q]) = .ret (decide (gz p q = 1)) := by
          unfold lowD
          rw [deq_t2, ← Bool.decide_and]
          exact congrArg T.ret (decide_eq_decide.mpr (low_one (q := q) (by omega)))
        have e5 : decide (0 ≤ p ∧ 1 ≤ q ∧ p < 1000000000000000000 ∧ q < 1000000000000000000 ∧ gz p q = 1) = decide (gz p q = 1) := by
          congr 1
          exact propext ⟨fun h => h.2.2.2.2, fun h => ⟨by omega, by omega, by omega, by omega, h⟩⟩
        have e6 : cmpT .eq (lowD p q) (.tup [.int p, .int q]) = .ret (decide (gz p q = 1)) := e4
        simp only [e_non, e_bl, e_int, e_str, e_var, e_con, e_bin, e_neg, e_cmp, e_chain, e_and, e_or, e_not, e_ite, e_tup, e_lst, e_idx, e_slc, e_call, e_callK, e_blt, e_isk, e_caught, e_isx, e_op0, e_op1, e_callM, b_op1, b_callM, i_callK, i_op1, o_emp, o_revT, b_var, b_cmp, b_chain, b_and, b_or, b_not, b_yes, b_call, b_callK, b_blt, b_isx, b_isk, a_nil, a_cons, r_nil, r_cons, o_nopart, o_part, i_rng1, i_rng2, i_zip, i_enum, i_cap, i_var, i_blt, i_call, i_tup, i_lst, i_idx, i_slc, q_add, q_sub, q_neg, q_lt, q_le, q_gt, q_ge, q_eqI, q_neI, q_isNN, q_isNT, q_isNI, q_isNL, q_isBB, q_isNB, q_isNS, q_isnNN, q_isnNT, q_isnNI, q_isnNL, q_andT, q_andF, q_orT, q_orF, q_not, q_toB, q_part, q_fzI, q_fzB, q_fzS, q_fzN, q_fzT, q_fzL, q_fzW, q_fzSt, q_fzSc, s_nil, s_cons, k_nx, k_rt, k_bk, k_ct, s_asg, s_asgF, s_asgT, k_asg, s_par, s_expr, s_iff, s_retN, s_raise, s_brk, s_cont, s_pass, s_frz, k_frzO, k_frzV, s_retV, k_retO, k_retV, s_ret_non, s_ret_bl, s_ret_int, s_ret_str, s_ret_con, s_ret_bin, s_ret_neg, s_ret_cmp, s_ret_chain, s_ret_and, s_ret_or, s_ret_not, s_ret_ite, s_ret_tup, s_ret_lst, s_ret_idx, s_ret_slc, s_ret_call, s_ret_callK, s_ret_op0, s_ret_op1, s_ret_callM, s_ret_blt, s_ret_isx, s_ret_isk, s_ret_comp, s_app, k_runR, k_runN, for_nil, k_forN, k_forC, k_forB, k_forR, g_nm, g_tp, o_some, noErr_ret, Yes, retK, ret_bind, err_bind, bad_bind, draw_bind, getV, slOf, slO, setAll, parT, List.length_cons, List.length_nil, List.map_cons, List.map_nil, List.getElem?_cons_zero, List.getElem?_cons_succ, List.set_cons_zero, List.set_cons_succ, List.cons_append, List.nil_append, List.replicate_succ, List.replicate_zero, i1, i2, h1, h2, k4, pw18, h3, decide_false, Bool.false_eq_true, if_false, t13_2, e3, e6, e5]
def isBlT (b : Bool) (t : T D) : Bool := match t with
  | .ret (.bl c) => b == c
  | _ => false
theorem isBlT_ok {b : Bool} {t : T D} (h : isBlT b t = true) : t = .ret (.bl b) := by
  unfold isBlT at h
  split at h
  · rw [beq_iff_eq] at h
    rw [h]
  · cases h
theorem f13 {v : D} (h : Ck v) : callF tab WH 9 13 [v] = .ret (.bl (isC v)) := by
  cases h with
  | p p q => exact f13p (n := 7)
  | l => exact isBlT_ok (b := false) (by decide +kernel)
  | n => exact isBlT_ok (b := false) (by decide +kernel)
  | s => exact isBlT_ok (b := false) (by decide +kernel)
  | x => exact isBlT_ok (b := false) (by decide +kernel)
  | t => exact isBlT_ok (b := false) (by decide +kernel)
  | b => exact isBlT_ok (b := false) (by decide +kernel)
/-! the least sample -/
def t5_5 : S := .cons (.ret (.var 5)) .nil
def t5_4 : S := .cons (.while_ (.cmp .gt (.bin .mul (.var 3) (.idx (.var 2) (.int 1))) (.bin .mul (.idx (.var 2) (.int 0)) (.var 4))) (.cons (.par [3, 4] (.cons (.bin .mul (.var 3) (.bin .sub (.bin .sub (.var 0) (.var 1)) (.var 5))) (.cons (.bin .mul (.var 4) (.bin .sub (.var 0) (.var 5))) .nil))) (.cons (.asgF 5 (.bin .add (.var 5) (.int 1))) .nil))) t5_5
def t5_3 : S := .cons (.asgT [3, 4, 5] (.tup (.cons (.int 1) (.cons (.int 1) (.cons (.int 0) .nil))))) t5_4
def t5_2 : S := .cons (.iff (.or (.cmp .lt (.idx (.var 2) (.int 0)) (.int 0)) (.or (.cmp .lt (.idx (.var 2) (.int 1)) (.int 1)) (.cmp .ne (.blt .gcd (.cons (.idx (.var 2) (.int 0)) (.cons (.idx (.var 2) (.int 1)) .nil))) (.int 1)))) (.cons (.raise 1) .nil) .nil) t5_3
def t5_1 : S := .cons (.iff (.or (.not (.isk .istup (.var 2))) (.or (.cmp .ne (.blt .len (.cons (.var 2) .nil)) (.int 2)) (.not (.blt .all (.cons (.comp (.nm 6) (.var 2) .yes (.call 1 (.cons (.var 6) .nil)) [("item", 6)]) .nil))))) (.cons (.raise 1) .nil) .nil) t5_2
def t5_0 : S := .cons (.expr (.call 3 (.cons (.var 0) (.cons (.var 1) (.cons (.con "MOST_SAMPLED" 1000) .nil))))) t5_1
theorem body5 : d5.body = t5_0 := rfl
def tw5 : X := (.cmp .gt (.bin .mul (.var 3) (.idx (.var 2) (.int 1))) (.bin .mul (.idx (.var 2) (.int 0)) (.var 4)))
def bw5 : S := (.cons (.par [3, 4] (.cons (.bin .mul (.var 3) (.bin .sub (.bin .sub (.var 0) (.var 1)) (.var 5))) (.cons (.bin .mul (.var 4) (.bin .sub (.var 0) (.var 5))) .nil))) (.cons (.asgF 5 (.bin .add (.var 5) (.int 1))) .nil))
def st5 (c w : Nat) (p q : Int) (k : Nat) : PV.Env := [.val (.int c), .val (.int w), .val (.tup [.int p, .int q]), .val (.int (fl (c - w) k : Nat)), .val (.int (fl c k : Nat)), .val (.int k), .un]
theorem tw5i {call : Nat → List D → T D} {s0 s1 x5 x6 : Sl} {p q u d : Int} (hp : 0 ≤ p) (hp2 : p < 1000000000000000000) (hq : 0 ≤ q) (hq2 : q < 1000000000000000000) : (evs call tw5).B [s0, s1, .val (.tup [.int p, .int q]), .val (.int u), .val (.int d), x5, x6] = .ret (decide (p * d < u * q)) := by
  have q1 := q_mulR (i := u) (j := q) (by omega) (by omega)
  have q2 := q_mulL (i := p) (j := d) (by omega) (by omega)
  have i1 := (ix2 (a := .int p) (b := .int q)).1
  have i2 := (ix2 (a := .int p) (b := .int q)).2
  unfold tw5
  simp only [e_non, e_bl, e_int, e_str, e_var, e_con, e_bin, e_neg, e_cmp, e_chain, e_and, e_or, e_not, e_ite, e_tup, e_lst, e_idx, e_slc, e_call, e_callK, e_blt, e_isk, e_caught, e_isx, e_op0, e_op1, e_callM, b_op1, b_callM, i_callK, i_op1, o_emp, o_revT, b_var, b_cmp, b_chain, b_and, b_or, b_not, b_yes, b_call, b_callK, b_blt, b_isx, b_isk, a_nil, a_cons, r_nil, r_cons, o_nopart, o_part, i_rng1, i_rng2, i_zip, i_enum, i_cap, i_var, i_blt, i_call, i_tup, i_lst, i_idx, i_slc, q_add, q_sub, q_neg, q_lt, q_le, q_gt, q_ge, q_eqI, q_neI, q_isNN, q_isNT, q_isNI, q_isNL, q_isBB, q_isNB, q_isNS, q_isnNN, q_isnNT, q_isnNI, q_isnNL, q_andT, q_andF, q_orT, q_orF, q_not, q_toB, q_part, q_fzI, q_fzB, q_fzS, q_fzN, q_fzT, q_fzL, q_fzW, q_fzSt, q_fzSc, s_nil, s_cons, k_nx, k_rt, k_bk, k_ct, s_asg, s_asgF, s_asgT, k_asg, s_par, s_expr, s_iff, s_retN, s_raise, s_brk, s_cont, s_pass, s_frz, k_frzO, k_frzV, s_retV, k_retO, k_retV, s_ret_non, s_ret_bl, s_ret_int, s_ret_str, s_ret_con, s_ret_bin, s_ret_neg, s_ret_cmp, s_ret_chain, s_ret_and, s_ret_or, s_ret_not, s_ret_ite, s_ret_tup, s_ret_lst, s_ret_idx, s_ret_slc, s_ret_call, s_ret_callK, s_ret_op0, s_ret_op1, s_ret_callM, s_ret_blt, s_ret_isx, s_ret_isk, s_ret_comp, s_app, k_runR, k_runN, for_nil, k_forN, k_forC, k_forB, k_forR, g_nm, g_tp, o_some, noErr_ret, Yes, retK, ret_bind, err_bind, bad_bind, draw_bind, getV, slOf, slO, setAll, parT, List.length_cons, List.length_nil, List.map_cons, List.map_nil, List.getElem?_cons_zero, List.getElem?_cons_succ, List.set_cons_zero, List.set_cons_succ, List.cons_append, List.nil_append, List.replicate_succ, List.replicate_zero, i1, i2, q1, q2]
theorem bw5i {call : Nat → List D → T D} {x2 x6 : Sl} {c w k u d u2 d2 k2 : Int} (q1 : binT .mul (.int u) (.int (c - w - k)) = .ret (.int u2)) (q2 : binT .mul (.int d) (.int (c - k)) = .ret (.int d2)) (q5 : k + 1 = k2) : ex call WH bw5 [.val (.int c), .val (.int w), x2, .val (.int u), .val (.int d), .val (.int k), x6] = .ret (.nx [.val (.int c), .val (.int w), x2, .val (.int u2), .val (.int d2), .val (.int k2), x6]) := by
  unfold bw5
  simp only [e_non, e_bl, e_int, e_str, e_var, e_con, e_bin, e_neg, e_cmp, e_chain, e_and, e_or, e_not, e_ite, e_tup, e_lst, e_idx, e_slc, e_call, e_callK, e_blt, e_isk, e_caught, e_isx, e_op0, e_op1, e_callM, b_op1, b_callM, i_callK, i_op1, o_emp, o_revT, b_var, b_cmp, b_chain, b_and, b_or, b_not, b_yes, b_call, b_callK, b_blt, b_isx, b_isk, a_nil, a_cons, r_nil, r_cons, o_nopart, o_part, i_rng1, i_rng2, i_zip, i_enum, i_cap, i_var, i_blt, i_call, i_tup, i_lst, i_idx, i_slc, q_add, q_sub, q_neg, q_lt, q_le, q_gt, q_ge, q_eqI, q_neI, q_isNN, q_isNT, q_isNI, q_isNL, q_isBB, q_isNB, q_isNS, q_isnNN, q_isnNT, q_isnNI, q_isnNL, q_andT, q_andF, q_orT, q_orF, q_not, q_toB, q_part, q_fzI, q_fzB, q_fzS, q_fzN, q_fzT, q_fzL, q_fzW, q_fzSt, q_fzSc, s_nil, s_cons, k_nx, k_rt, k_bk, k_ct, s_asg, s_asgF, s_asgT, k_asg, s_par, s_expr, s_iff, s_retN, s_raise, s_brk, s_cont, s_pass, s_frz, k_frzO, k_frzV, s_retV, k_retO, k_retV, s_ret_non, s_ret_bl, s_ret_int, s_ret_str, s_ret_con, s_ret_bin, s_ret_neg, s_ret_cmp, s_ret_chain, s_ret_and, s_ret_or, s_ret_not, s_ret_ite, s_ret_tup, s_ret_lst, s_ret_idx, s_ret_slc, s_ret_call, s_ret_callK, s_ret_op0, s_ret_op1, s_ret_callM, s_ret_blt, s_ret_isx, s_ret_isk, s_ret_comp, s_app, k_runR, k_runN, for_nil, k_forN, k_forC, k_forB, k_forR, g_nm, g_tp, o_some, noErr_ret, Yes, retK, ret_bind, err_bind, bad_bind, draw_bind, getV, slOf, slO, setAll, parT, List.length_cons, List.length_nil, List.map_cons, List.map_nil, List.getElem?_cons_zero, List.getElem?_cons_succ, List.set_cons_zero, List.set_cons_succ, List.cons_append, List.nil_append, List.replicate_succ, List.replicate_zero, q1, q2, q5]
theorem tw5_eq {call : Nat → List D → T D} {c w : Nat} {p q : Int} {k : Nat} (hp : 0 ≤ p) (hp2 : p < 1000000000000000000) (hq : 0 ≤ q) (hq2 : q < 1000000000000000000) : (evs call tw5).B (st5 c w p q k) = .ret (decide (p * (fl c k : Nat) < (fl (c - w) k : Nat) * q)) := tw5i hp hp2 hq hq2
theorem bw5_eq {call : Nat → List D → T D} {c w : Nat} {p q : Int} {k : Nat} (hc : c ≤ 1000) (hw : w ≤ c) (hk : k ≤ c - w) : ex call WH bw5 (st5 c w p q k) = .ret (.nx (st5 c w p q (k + 1))) := by
  have q3 : ((fl (c - w) k : Nat) : Int) * ((c : Int) - (w : Int) - (k : Int)) = (fl (c - w) (k + 1) : Nat) := by
    rw [show (c : Int) - (w : Int) - (k : Int) = ((c - w - k : Nat) : Int) by omega, ← Int.natCast_mul]
    rfl
  have q4 : ((fl c k : Nat) : Int) * ((c : Int) - (k : Int)) = (fl c (k + 1) : Nat) := by
    rw [show (c : Int) - (k : Int) = ((c - k : Nat) : Int) by omega, ← Int.natCast_mul]
    rfl
  unfold st5
  refine bw5i ?_ ?_ (by omega)
  · rw [← q3]
    exact q_mulR (by omega) (by omega)
  · rw [← q4]
    exact q_mulR (by omega) (by omega)
theorem loop5 {call : Nat → List D → T D} {c w : Nat} {p q : Int} (hc : c ≤ 1000) (hw : w ≤ c) (hp : 0 ≤ p) (hp2 : p < 1000000000000000000) (hq : 0 ≤ q) (hq2 : q < 1000000000000000000) (m : Nat) :
    ∀ (j k : Nat), k + j = c - w + 1 → ∃ K, K ≤ c - w + 1 ∧ ¬ (p * (fl c K : Nat) < (fl (c - w) K : Nat) * q) ∧ k ≤ K ∧ (K = k ∨ (p * (fl c (K - 1) : Nat) < (fl (c - w) (K - 1) : Nat) * q)) ∧ whileL (evs call tw5).B (ex call WH bw5) (j + 1 + m) (st5 c w p q k) = .ret (.nx (st5 c w p q K))
  | 0, k, h => by
    have hz : fl (c - w) k = 0 := by
      rw [show k = (c - w) + 1 by omega]
      show fl (c - w) (c - w) * (c - w - (c - w)) = 0
      rw [Nat.sub_self, Nat.mul_zero]
    have ht : ¬ (p * (fl c k : Nat) < (fl (c - w) k : Nat) * q) := by
      rw [hz]
      have : 0 ≤ p * (fl c k : Nat) := Int.mul_nonneg hp (by omega)
      omega
    refine ⟨k, by omega, ht, Nat.le_refl _, .inl rfl, ?_⟩
    rw [show 0 + 1 + m = m + 1 by omega, while_E (by rw [tw5_eq hp hp2 hq hq2, decide_eq_false ht])]
  | j + 1, k, h => by
    by_cases ht : p * (fl c k : Nat) < (fl (c - w) k : Nat) * q
    · obtain ⟨K, h1, h2, h3, h4, h5⟩ := loop5 (call := call) hc hw hp hp2 hq hq2 m j (k + 1) (by omega)
      refine ⟨K, h1, h2, by omega, .inr ?_, ?_⟩
      · rcases h4 with e | e
        · rw [e, Nat.add_sub_cancel]
          exact ht
        · exact e
      · rw [show j + 1 + 1 + m = (j + 1 + m) + 1 by omega, while_S (by rw [tw5_eq hp hp2 hq hq2, decide_eq_true ht]) (bw5_eq hc hw (by omega)), h5]
    · refine ⟨k, by omega, ht, Nat.le_refl _, .inl rfl, ?_⟩
      rw [show j + 1 + 1 + m = (j + 1 + m) + 1 by omega, while_E (by rw [tw5_eq hp hp2 hq hq2, decide_eq_false ht])]
theorem comp5 {n : Nat} {r0 r1 : Sl} {v : D} (ds : List D) (h : ∀ d ∈ ds, kd d = true) : compL (compF (.nm 6) [6] (evs (callF tab WH (n + 1)) .yes).B (evs (callF tab WH (n + 1)) (.call 1 (.cons (.var 6) .nil))).E [r0, r1, .val v, .un, .un, .un, .un]) ds = .ret (ds.map fun d => .bl (whB d)) := by
  refine comp_map fun d hd => ?_
  have e := f1 (n := n) (h d hd)
  have fz := kd_fz (h d hd)
  simp only [compF_eq, wipeE, e_non, e_bl, e_int, e_str, e_var, e_con, e_bin, e_neg, e_cmp, e_chain, e_and, e_or, e_not, e_ite, e_tup, e_lst, e_idx, e_slc, e_call, e_callK, e_blt, e_isk, e_caught, e_isx, e_op0, e_op1, e_callM, b_op1, b_callM, i_callK, i_op1, o_emp, o_revT, b_var, b_cmp, b_chain, b_and, b_or, b_not, b_yes, b_call, b_callK, b_blt, b_isx, b_isk, a_nil, a_cons, r_nil, r_cons, o_nopart, o_part, i_rng1, i_rng2, i_zip, i_enum, i_cap, i_var, i_blt, i_call, i_tup, i_lst, i_idx, i_slc, q_add, q_sub, q_neg, q_lt, q_le, q_gt, q_ge, q_eqI, q_neI, q_isNN, q_isNT, q_isNI, q_isNL, q_isBB, q_isNB, q_isNS, q_isnNN, q_isnNT, q_isnNI, q_isnNL, q_andT, q_andF, q_orT, q_orF, q_not, q_toB, q_part, q_fzI, q_fzB, q_fzS, q_fzN, q_fzT, q_fzL, q_fzW, q_fzSt, q_fzSc, s_nil, s_cons, k_nx, k_rt, k_bk, k_ct, s_asg, s_asgF, s_asgT, k_asg, s_par, s_expr, s_iff, s_retN, s_raise, s_brk, s_cont, s_pass, s_frz, k_frzO, k_frzV, s_retV, k_retO, k_retV, s_ret_non, s_ret_bl, s_ret_int, s_ret_str, s_ret_con, s_ret_bin, s_ret_neg, s_ret_cmp, s_ret_chain, s_ret_and, s_ret_or, s_ret_not, s_ret_ite, s_ret_tup, s_ret_lst, s_ret_idx, s_ret_slc, s_ret_call, s_ret_callK, s_ret_op0, s_ret_op1, s_ret_callM, s_ret_blt, s_ret_isx, s_ret_isk, s_ret_comp, s_app, k_runR, k_runN, for_nil, k_forN, k_forC, k_forB, k_forR, g_nm, g_tp, o_some, noErr_ret, Yes, retK, ret_bind, err_bind, bad_bind, draw_bind, getV, slOf, slO, setAll, parT, List.length_cons, List.length_nil, List.map_cons, List.map_nil, List.getElem?_cons_zero, List.getElem?_cons_succ, List.set_cons_zero, List.set_cons_succ, List.cons_append, List.nil_append, List.replicate_succ, List.replicate_zero, fz, e, if_true]
theorem all2 {a b : Bool} : bltT .all [.new [.bl a, .bl b]] = .ret (.bl (a && b)) := by
  cases a <;> cases b <;> rfl
def leastE (c w v : D) : Option Nat := if inN 1 1000 c = true then (if inN 1 (toI c) w = true then (if isC v = true then none else some 1) else some 4) else some 2
theorem least_v {C : Int} {w v : D} (h1 : inN 1 1000 (.int C) = true) (h2 : inN 1 C w = true) : leastE (.int C) w v = if isC v = true then none else some 1 := by
  unfold leastE
  rw [if_pos h1]
  exact if_pos h2
theorem least_w {C : Int} {w v : D} (h1 : inN 1 1000 (.int C) = true) (h2 : ¬ inN 1 C w = true) : leastE (.int C) w v = some 4 := by
  unfold leastE
  rw [if_pos h1]
  exact if_neg h2
theorem least_c {c w v : D} (h1 : ¬ inN 1 1000 c = true) : leastE c w v = some 2 := if_neg h1
/-- what refuses -/
theorem f5e {n : Nat} {c w v : D} {e : Nat} (hc : kd c = true) (hw : kd w = true) (hv : Ck v) (h : leastE c w v = some e) : callF tab WH (n + 4) 5 [c, w, v] = .err e := by
  show runD (callF tab WH (n + 3)) WH d5 _ = _
  rw [run_eq rfl]
  have e1 := f3 (n := n) (M := 1000) hc hw (by decide)
  have fz1 := kd_fz hc
  have fz2 := kd_fz hw
  rw [body5]
  simp only [d5, startE]
  unfold t5_0
  by_cases h1 : inN 1 1000 c = true
  · obtain ⟨C, rfl, c1, c2⟩ := inN_int h1
    by_cases h2 : inN 1 C w = true
    · rw [least_v h1 h2] at h
      rw [need_ok h1 h2] at e1
      obtain ⟨W, rfl, w1, w2⟩ := inN_int h2
      simp only [e_non, e_bl, e_int, e_str, e_var, e_con, e_bin, e_neg, e_cmp, e_chain, e_and, e_or, e_not, e_ite, e_tup, e_lst, e_idx, e_slc, e_call, e_callK, e_blt, e_isk, e_caught, e_isx, e_op0, e_op1, e_callM, b_op1, b_callM, i_callK, i_op1, o_emp, o_revT, b_var, b_cmp, b_chain, b_and, b_or, b_not, b_yes, b_call, b_callK, b_blt, b_isx, b_isk, a_nil, a_cons, r_nil, r_cons, o_nopart, o_part, i_rng1, i_rng2, i_zip, i_enum, i_cap, i_var, i_blt, i_call, i_tup, i_lst, i_idx, i_slc, q_add, q_sub, q_neg, q_lt, q_le, q_gt, q_ge, q_eqI, q_neI, q_isNN, q_isNT, q_isNI, q_isNL, q_isBB, q_isNB, q_isNS, q_isnNN, q_isnNT, q_isnNI, q_isnNL, q_andT, q_andF, q_orT, q_orF, q_not, q_toB, q_part, q_fzI, q_fzB, q_fzS, q_fzN, q_fzT, q_fzL, q_fzW, q_fzSt, q_fzSc, s_nil, s_cons, k_nx, k_rt, k_bk, k_ct, s_asg, s_asgF, s_asgT, k_asg, s_par, s_expr, s_iff, s_retN, s_raise, s_brk, s_cont, s_pass, s_frz, k_frzO, k_frzV, s_retV, k_retO, k_retV, s_ret_non, s_ret_bl, s_ret_int, s_ret_str, s_ret_con, s_ret_bin, s_ret_neg, s_ret_cmp, s_ret_chain, s_ret_and, s_ret_or, s_ret_not, s_ret_ite, s_ret_tup, s_ret_lst, s_ret_idx, s_ret_slc, s_ret_call, s_ret_callK, s_ret_op0, s_ret_op1, s_ret_callM, s_ret_blt, s_ret_isx, s_ret_isk, s_ret_comp, s_app, k_runR, k_runN, for_nil, k_forN, k_forC, k_forB, k_forR, g_nm, g_tp, o_some, noErr_ret, Yes, retK, ret_bind, err_bind, bad_bind, draw_bind, getV, slOf, slO, setAll, parT, List.length_cons, List.length_nil, List.map_cons, List.map_nil, List.getElem?_cons_zero, List.getElem?_cons_succ, List.set_cons_zero, List.set_cons_succ, List.cons_append, List.nil_append, List.replicate_succ, List.replicate_zero, fz1, fz2, e1]
      unfold t5_1
      have nt : ∀ {x : D}, bltT .istup [x] = .ret (.bl false) → x = v → e = 1 → ex (callF tab WH (n + 3)) WH (.cons (.iff (.or (.not (.isk .istup (.var 2))) (.or (.cmp .ne (.blt .len (.cons (.var 2) .nil)) (.int 2)) (.not (.blt .all (.cons (.comp (.nm 6) (.var 2) .yes (.call 1 (.cons (.var 6) .nil)) [("item", 6)]) .nil))))) (.cons (.raise 1) .nil) .nil) t5_2) [.val (.int C), .val (.int W), .val x, .un, .un, .un, .un] >>= runK = .err e := by
        intro x hx _ he
        subst he
        simp only [e_non, e_bl, e_int, e_str, e_var, e_con, e_bin, e_neg, e_cmp, e_chain, e_and, e_or, e_not, e_ite, e_tup, e_lst, e_idx, e_slc, e_call, e_callK, e_blt, e_isk, e_caught, e_isx, e_op0, e_op1, e_callM, b_op1, b_callM, i_callK, i_op1, o_emp, o_revT, b_var, b_cmp, b_chain, b_and, b_or, b_not, b_yes, b_call, b_callK, b_blt, b_isx, b_isk, a_nil, a_cons, r_nil, r_cons, o_nopart, o_part, i_rng1, i_rng2, i_zip, i_enum, i_cap, i_var, i_blt, i_call, i_tup, i_lst, i_idx, i_slc, q_add, q_sub, q_neg, q_lt, q_le, q_gt, q_ge, q_eqI, q_neI, q_isNN, q_isNT, q_isNI, q_isNL, q_isBB, q_isNB, q_isNS, q_isnNN, q_isnNT, q_isnNI, q_isnNL, q_andT, q_andF, q_orT, q_orF, q_not, q_toB, q_part, q_fzI, q_fzB, q_fzS, q_fzN, q_fzT, q_fzL, q_fzW, q_fzSt, q_fzSc, s_nil, s_cons, k_nx, k_rt, k_bk, k_ct, s_asg, s_asgF, s_asgT, k_asg, s_par, s_expr, s_iff, s_retN, s_raise, s_brk, s_cont, s_pass, s_frz, k_frzO, k_frzV, s_retV, k_retO, k_retV, s_ret_non, s_ret_bl, s_ret_int, s_ret_str, s_ret_con, s_ret_bin, s_ret_neg, s_ret_cmp, s_ret_chain, s_ret_and, s_ret_or, s_ret_not, s_ret_ite, s_ret_tup, s_ret_lst, s_ret_idx, s_ret_slc, s_ret_call, s_ret_callK, s_ret_op0, s_ret_op1, s_ret_callM, s_ret_blt, s_ret_isx, s_ret_isk, s_ret_comp, s_app, k_runR, k_runN, for_nil, k_forN, k_forC, k_forB, k_forR, g_nm, g_tp, o_some, noErr_ret, Yes, retK, ret_bind, err_bind, bad_bind, draw_bind, getV, slOf, slO, setAll, parT, List.length_cons, List.length_nil, List.map_cons, List.map_nil, List.getElem?_cons_zero, List.getElem?_cons_succ, List.set_cons_zero, List.set_cons_succ, List.cons_append, List.nil_append, List.replicate_succ, List.replicate_zero, hx, Bool.not_false, if_true]
      have pr : ∀ {a b : D}, .tup [a, b] = v → kd a = true → kd b = true → (whB a && whB b) = false → e = 1 → ex (callF tab WH (n + 3)) WH (.cons (.iff (.or (.not (.isk .istup (.var 2))) (.or (.cmp .ne (.blt .len (.cons (.var 2) .nil)) (.int 2)) (.not (.blt .all (.cons (.comp (.nm 6) (.var 2) .yes (.call 1 (.cons (.var 6) .nil)) [("item", 6)]) .nil))))) (.cons (.raise 1) .nil) .nil) t5_2) [.val (.int C), .val (.int W), .val (.tup [a, b]), .un, .un, .un, .un] >>= runK = .err e := by
        intro a b _ ha hb hf he
        subst he
        have k1 : bltT .istup [.tup [a, b]] = .ret (.bl true) := rfl
        have k2 : bltT .len [.tup [a, b]] = .ret (.int 2) := rfl
        have k5 : frozen (.tup [a, b]) = some [a, b] := rfl
        have hcm := comp5 (n := n + 2) (r0 := .val (.int C)) (r1 := .val (.int W)) (v := .tup [a, b]) [a, b] (by
          intro d hd
          simp only [List.mem_cons, List.not_mem_nil, or_false] at hd
          rcases hd with rfl | rfl <;> assumption)
        simp only [List.map_cons, List.map_nil] at hcm
        simp only [e_non, e_bl, e_int, e_str, e_var, e_con, e_bin, e_neg, e_cmp, e_chain, e_and, e_or, e_not, e_ite, e_tup, e_lst, e_idx, e_slc, e_call, e_callK, e_blt, e_isk, e_caught, e_isx, e_op0, e_op1, e_callM, b_op1, b_callM, i_callK, i_op1, o_emp, o_revT, b_var, b_cmp, b_chain, b_and, b_or, b_not, b_yes, b_call, b_callK, b_blt, b_isx, b_isk, a_nil, a_cons, r_nil, r_cons, o_nopart, o_part, i_rng1, i_rng2, i_zip, i_enum, i_cap, i_var, i_blt, i_call, i_tup, i_lst, i_idx, i_slc, q_add, q_sub, q_neg, q_lt, q_le, q_gt, q_ge, q_eqI, q_neI, q_isNN, q_isNT, q_isNI, q_isNL, q_isBB, q_isNB, q_isNS, q_isnNN, q_isnNT, q_isnNI, q_isnNL, q_andT, q_andF, q_orT, q_orF, q_not, q_toB, q_part, q_fzI, q_fzB, q_fzS, q_fzN, q_fzT, q_fzL, q_fzW, q_fzSt, q_fzSc, s_nil, s_cons, k_nx, k_rt, k_bk, k_ct, s_asg, s_asgF, s_asgT, k_asg, s_par, s_expr, s_iff, s_retN, s_raise, s_brk, s_cont, s_pass, s_frz, k_frzO, k_frzV, s_retV, k_retO, k_retV, s_ret_non, s_ret_bl, s_ret_int, s_ret_str, s_ret_con, s_ret_bin, s_ret_neg, s_ret_cmp, s_ret_chain, s_ret_and, s_ret_or, s_ret_not, s_ret_ite, s_ret_tup, s_ret_lst, s_ret_idx, s_ret_slc, s_ret_call, s_ret_callK, s_ret_op0, s_ret_op1, s_ret_callM, s_ret_blt, s_ret_isx, s_ret_isk, s_ret_comp, s_app, k_runR, k_runN, for_nil, k_forN, k_forC, k_forB, k_forR, g_nm, g_tp, o_some, noErr_ret, Yes, retK, ret_bind, err_bind, bad_bind, draw_bind, getV, slOf, slO, setAll, parT, List.length_cons, List.length_nil, List.map_cons, List.map_nil, List.getElem?_cons_zero, List.getElem?_cons_succ, List.set_cons_zero, List.set_cons_succ, List.cons_append, List.nil_append, List.replicate_succ, List.replicate_zero, e_comp, k1, k2, k5, hcm, noErr_ret, all2, hf, Bool.not_true, Bool.not_false, decide_true, Bool.false_eq_true, if_false, if_true]
      by_cases h3 : isC v = true
      · rw [if_pos h3] at h
        cases h
      · rw [if_neg h3] at h
        have he : e = 1 := by cases h; rfl
        cases hv with
        | l => exact nt rfl rfl he
        | n => exact nt rfl rfl he
        | x => exact nt rfl rfl he
        | s => exact pr rfl rfl rfl (by decide) he
        | b => exact pr rfl rfl rfl (by decide) he
        | t =>
          subst he
          have k1 : bltT .istup [.tup [.int 1, .int 2, .int 3]] = .ret (.bl true) := rfl
          have k2 : bltT .len [.tup [.int 1, .int 2, .int 3]] = .ret (.int 3) := rfl
          have k3 : ((3 : Int) = 2) = False := by decide
          simp only [e_non, e_bl, e_int, e_str, e_var, e_con, e_bin, e_neg, e_cmp, e_chain, e_and, e_or, e_not, e_ite, e_tup, e_lst, e_idx, e_slc, e_call, e_callK, e_blt, e_isk, e_caught, e_isx, e_op0, e_op1, e_callM, b_op1, b_callM, i_callK, i_op1, o_emp, o_revT, b_var, b_cmp, b_chain, b_and, b_or, b_not, b_yes, b_call, b_callK, b_blt, b_isx, b_isk, a_nil, a_cons, r_nil, r_cons, o_nopart, o_part, i_rng1, i_rng2, i_zip, i_enum, i_cap, i_var, i_blt, i_call, i_tup, i_lst, i_idx, i_slc, q_add, q_sub, q_neg, q_lt, q_le, q_gt, q_ge, q_eqI, q_neI, q_isNN, q_isNT, q_isNI, q_isNL, q_isBB, q_isNB, q_isNS, q_isnNN, q_isnNT, q_isnNI, q_isnNL, q_andT, q_andF, q_orT, q_orF, q_not, q_toB, q_part, q_fzI, q_fzB, q_fzS, q_fzN, q_fzT, q_fzL, q_fzW, q_fzSt, q_fzSc, s_nil, s_cons, k_nx, k_rt, k_bk, k_ct, s_asg, s_asgF, s_asgT, k_asg, s_par, s_expr, s_iff, s_retN, s_raise, s_brk, s_cont, s_pass, s_frz, k_frzO, k_frzV, s_retV, k_retO, k_retV, s_ret_non, s_ret_bl, s_ret_int, s_ret_str, s_ret_con, s_ret_bin, s_ret_neg, s_ret_cmp, s_ret_chain, s_ret_and, s_ret_or, s_ret_not, s_ret_ite, s_ret_tup, s_ret_lst, s_ret_idx, s_ret_slc, s_ret_call, s_ret_callK, s_ret_op0, s_ret_op1, s_ret_callM, s_ret_blt, s_ret_isx, s_ret_isk, s_ret_comp, s_app, k_runR, k_runN, for_nil, k_forN, k_forC, k_forB, k_forR, g_nm, g_tp, o_some, noErr_ret, Yes, retK, ret_bind, err_bind, bad_bind, draw_bind, getV, slOf, slO, setAll, parT, List.length_cons, List.length_nil, List.map_cons, List.map_nil, List.getElem?_cons_zero, List.getElem?_cons_succ, List.set_cons_zero, List.set_cons_succ, List.cons_append, List.nil_append, List.replicate_succ, List.replicate_zero, k1, k2, k3, Bool.not_true, Bool.not_false, decide_false, Bool.false_eq_true, if_false, if_true]
        | p p q =>
          by_cases hf : (whB (.int p) && whB (.int q)) = false
          · exact pr rfl rfl rfl hf he
          · rw [Bool.not_eq_false] at hf
            subst he
            have k1 : bltT .istup [.tup [.int p, .int q]] = .ret (.bl true) := rfl
            have k2 : bltT .len [.tup [.int p, .int q]] = .ret (.int 2) := rfl
            have k5 : frozen (.tup [.int p, .int q]) = some [.int p, .int q] := rfl
            have hcm := comp5 (n := n + 2) (r0 := .val (.int C)) (r1 := .val (.int W)) (v := .tup [.int p, .int q]) [.int p, .int q] (by
              intro d hd
              simp only [List.mem_cons, List.not_mem_nil, or_false] at hd
              rcases hd with rfl | rfl <;> rfl)
            simp only [List.map_cons, List.map_nil] at hcm
            have i1 := (ix2 (a := .int p) (b := .int q)).1
            have i2 := (ix2 (a := .int p) (b := .int q)).2
            simp only [e_non, e_bl, e_int, e_str, e_var, e_con, e_bin, e_neg, e_cmp, e_chain, e_and, e_or, e_not, e_ite, e_tup, e_lst, e_idx, e_slc, e_call, e_callK, e_blt, e_isk, e_caught, e_isx, e_op0, e_op1, e_callM, b_op1, b_callM, i_callK, i_op1, o_emp, o_revT, b_var, b_cmp, b_chain, b_and, b_or, b_not, b_yes, b_call, b_callK, b_blt, b_isx, b_isk, a_nil, a_cons, r_nil, r_cons, o_nopart, o_part, i_rng1, i_rng2, i_zip, i_enum, i_cap, i_var, i_blt, i_call, i_tup, i_lst, i_idx, i_slc, q_add, q_sub, q_neg, q_lt, q_le, q_gt, q_ge, q_eqI, q_neI, q_isNN, q_isNT, q_isNI, q_isNL, q_isBB, q_isNB, q_isNS, q_isnNN, q_isnNT, q_isnNI, q_isnNL, q_andT, q_andF, q_orT, q_orF, q_not, q_toB, q_part, q_fzI, q_fzB, q_fzS, q_fzN, q_fzT, q_fzL, q_fzW, q_fzSt, q_fzSc, s_nil, s_cons, k_nx, k_rt, k_bk, k_ct, s_asg, s_asgF, s_asgT, k_asg, s_par, s_expr, s_iff, s_retN, s_raise, s_brk, s_cont, s_pass, s_frz, k_frzO, k_frzV, s_retV, k_retO, k_retV, s_ret_non, s_ret_bl, s_ret_int, s_ret_str, s_ret_con, s_ret_bin, s_ret_neg, s_ret_cmp, s_ret_chain, s_ret_and, s_ret_or, s_ret_not, s_ret_ite, s_ret_tup, s_ret_lst, s_ret_idx, s_ret_slc, s_ret_call, s_ret_callK, s_ret_op0, s_ret_op1, s_ret_callM, s_ret_blt, s_ret_isx, s_ret_isk, s_ret_comp, s_app, k_runR, k_runN, for_nil, k_forN, k_forC, k_forB, k_forR, g_nm, g_tp, o_some, noErr_ret, Yes, retK, ret_bind, err_bind, bad_bind, draw_bind, getV, slOf, slO, setAll, parT, List.length_cons, List.length_nil, List.map_cons, List.map_nil, List.getElem?_cons_zero, List.getElem?_cons_succ, List.set_cons_zero, List.set_cons_succ, List.cons_append, List.nil_append, List.replicate_succ, List.replicate_zero, e_comp, k1, k2, k5, hcm, noErr_ret, all2, hf, Bool.not_true, Bool.not_false, decide_true, Bool.false_eq_true, if_false]
            unfold t5_2
            simp only [whB, Bool.and_eq_true, decide_eq_true_eq] at hf
            unfold isC at h3
            by_cases a1 : p < 0
            · simp only [e_non, e_bl, e_int, e_str, e_var, e_con, e_bin, e_neg, e_cmp, e_chain, e_and, e_or, e_not, e_ite, e_tup, e_lst, e_idx, e_slc, e_call, e_callK, e_blt, e_isk, e_caught, e_isx, e_op0, e_op1, e_callM, b_op1, b_callM, i_callK, i_op1, o_emp, o_revT, b_var, b_cmp, b_chain, b_and, b_or, b_not, b_yes, b_call, b_callK, b_blt, b_isx, b_isk, a_nil, a_cons, r_nil, r_cons, o_nopart, o_part, i_rng1, i_rng2, i_zip, i_enum, i_cap, i_var, i_blt, i_call, i_tup, i_lst, i_idx, i_slc, q_add, q_sub, q_neg, q_lt, q_le, q_gt, q_ge, q_eqI, q_neI, q_isNN, q_isNT, q_isNI, q_isNL, q_isBB, q_isNB, q_isNS, q_isnNN, q_isnNT, q_isnNI, q_isnNL, q_andT, q_andF, q_orT, q_orF, q_not, q_toB, q_part, q_fzI, q_fzB, q_fzS, q_fzN, q_fzT, q_fzL, q_fzW, q_fzSt, q_fzSc, s_nil, s_cons, k_nx, k_rt, k_bk, k_ct, s_asg, s_asgF, s_asgT, k_asg, s_par, s_expr, s_iff, s_retN, s_raise, s_brk, s_cont, s_pass, s_frz, k_frzO, k_frzV, s_retV, k_retO, k_retV, s_ret_non, s_ret_bl, s_ret_int, s_ret_str, s_ret_con, s_ret_bin, s_ret_neg, s_ret_cmp, s_ret_chain, s_ret_and, s_ret_or, s_ret_not, s_ret_ite, s_ret_tup, s_ret_lst, s_ret_idx, s_ret_slc, s_ret_call, s_ret_callK, s_ret_op0, s_ret_op1, s_ret_callM, s_ret_blt, s_ret_isx, s_ret_isk, s_ret_comp, s_app, k_runR, k_runN, for_nil, k_forN, k_forC, k_forB, k_forR, g_nm, g_tp, o_some, noErr_ret, Yes, retK, ret_bind, err_bind, bad_bind, draw_bind, getV, slOf, slO, setAll, parT, List.length_cons, List.length_nil, List.map_cons, List.map_nil, List.getElem?_cons_zero, List.getElem?_cons_succ, List.set_cons_zero, List.set_cons_succ, List.cons_append, List.nil_append, List.replicate_succ, List.replicate_zero, i1, a1, decide_true, if_true]
            · by_cases a2 : q < 1
              · simp only [e_non, e_bl, e_int, e_str, e_var, e_con, e_bin, e_neg, e_cmp, e_chain, e_and, e_or, e_not, e_ite, e_tup, e_lst, e_idx, e_slc, e_call, e_callK, e_blt, e_isk, e_caught, e_isx, e_op0, e_op1, e_callM, b_op1, b_callM, i_callK, i_op1, o_emp, o_revT, b_var, b_cmp, b_chain, b_and, b_or, b_not, b_yes, b_call, b_callK, b_blt, b_isx, b_isk, a_nil, a_cons, r_nil, r_cons, o_nopart, o_part, i_rng1, i_rng2, i_zip, i_enum, i_cap, i_var, i_blt, i_call, i_tup, i_lst, i_idx, i_slc, q_add, q_sub, q_neg, q_lt, q_le, q_gt, q_ge, q_eqI, q_neI, q_isNN, q_isNT, q_isNI, q_isNL, q_isBB, q_isNB, q_isNS, q_isnNN, q_isnNT, q_isnNI, q_isnNL, q_andT, q_andF, q_orT, q_orF, q_not, q_toB, q_part, q_fzI, q_fzB, q_fzS, q_fzN, q_fzT, q_fzL, q_fzW, q_fzSt, q_fzSc, s_nil, s_cons, k_nx, k_rt, k_bk, k_ct, s_asg, s_asgF, s_asgT, k_asg, s_par, s_expr, s_iff, s_retN, s_raise, s_brk, s_cont, s_pass, s_frz, k_frzO, k_frzV, s_retV, k_retO, k_retV, s_ret_non, s_ret_bl, s_ret_int, s_ret_str, s_ret_con, s_ret_bin, s_ret_neg, s_ret_cmp, s_ret_chain, s_ret_and, s_ret_or, s_ret_not, s_ret_ite, s_ret_tup, s_ret_lst, s_ret_idx, s_ret_slc, s_ret_call, s_ret_callK, s_ret_op0, s_ret_op1, s_ret_callM, s_ret_blt, s_ret_isx, s_ret_isk, s_ret_comp, s_app, k_runR, k_runN, for_nil, k_forN, k_forC, k_forB, k_forR, g_nm, g_tp, o_some, noErr_ret, Yes, retK, ret_bind, err_bind, bad_bind, draw_bind, getV, slOf, slO, setAll, parT, List.length_cons, List.length_nil, List.map_cons, List.map_nil, List.getElem?_cons_zero, List.getElem?_cons_succ, List.set_cons_zero, List.set_cons_succ, List.cons_append, List.nil_append, List.replicate_succ, List.replicate_zero, i1, i2, a1, a2, decide_true, decide_false, Bool.false_eq_true, if_false, if_true]
              · have a3 : ¬ gz p q = 1 := fun a3 => h3 (decide_eq_true ⟨by omega, by omega, by omega, by omega, a3⟩)
                simp only [e_non, e_bl, e_int, e_str, e_var, e_con, e_bin, e_neg, e_cmp, e_chain, e_and, e_or, e_not, e_ite, e_tup, e_lst, e_idx, e_slc, e_call, e_callK, e_blt, e_isk, e_caught, e_isx, e_op0, e_op1, e_callM, b_op1, b_callM, i_callK, i_op1, o_emp, o_revT, b_var, b_cmp, b_chain, b_and, b_or, b_not, b_yes, b_call, b_callK, b_blt, b_isx, b_isk, a_nil, a_cons, r_nil, r_cons, o_nopart, o_part, i_rng1, i_rng2, i_zip, i_enum, i_cap, i_var, i_blt, i_call, i_tup, i_lst, i_idx, i_slc, q_add, q_sub, q_neg, q_lt, q_le, q_gt, q_ge, q_eqI, q_neI, q_isNN, q_isNT, q_isNI, q_isNL, q_isBB, q_isNB, q_isNS, q_isnNN, q_isnNT, q_isnNI, q_isnNL, q_andT, q_andF, q_orT, q_orF, q_not, q_toB, q_part, q_fzI, q_fzB, q_fzS, q_fzN, q_fzT, q_fzL, q_fzW, q_fzSt, q_fzSc, s_nil, s_cons, k_nx, k_rt, k_bk, k_ct, s_asg, s_asgF, s_asgT, k_asg, s_par, s_expr, s_iff, s_retN, s_raise, s_brk, s_cont, s_pass, s_frz, k_frzO, k_frzV, s_retV, k_retO, k_retV, s_ret_non, s_ret_bl, s_ret_int, s_ret_str, s_ret_con, s_ret_bin, s_ret_neg, s_ret_cmp, s_ret_chain, s_ret_and, s_ret_or, s_ret_not, s_ret_ite, s_ret_tup, s_ret_lst, s_ret_idx, s_ret_slc, s_ret_call, s_ret_callK, s_ret_op0, s_ret_op1, s_ret_callM, s_ret_blt, s_ret_isx, s_ret_isk, s_ret_comp, s_app, k_runR, k_runN, for_nil, k_forN, k_forC, k_forB, k_forR, g_nm, g_tp, o_some, noErr_ret, Yes, retK, ret_bind, err_bind, bad_bind, draw_bind, getV, slOf, slO, setAll, parT, List.length_cons, List.length_nil, List.map_cons, List.map_nil, List.getElem?_cons_zero, List.getElem?_cons_succ, List.set_cons_zero, List.set_cons_succ, List.cons_append, List.nil_append, List.replicate_succ, List.replicate_zero, i1, i2, a1, a2, gcd_gz, a3, decide_false, Bool.not_false, Bool.false_eq_true, if_false, if_true]
    · rw [least_w h1 h2] at h
      rw [need_w h1 (by rw [← Bool.not_eq_true]; exact h2)] at e1
      have he : e = 4 := by cases h; rfl
      subst he
      simp only [e_non, e_bl, e_int, e_str, e_var, e_con, e_bin, e_neg, e_cmp, e_chain, e_and, e_or, e_not, e_ite, e_tup, e_lst, e_idx, e_slc, e_call, e_callK, e_blt, e_isk, e_caught, e_isx, e_op0, e_op1, e_callM, b_op1, b_callM, i_callK, i_op1, o_emp, o_revT, b_var, b_cmp, b_chain, b_and, b_or, b_not, b_yes, b_call, b_callK, b_blt, b_isx, b_isk, a_nil, a_cons, r_nil, r_cons, o_nopart, o_part, i_rng1, i_rng2, i_zip, i_enum, i_cap, i_var, i_blt, i_call, i_tup, i_lst, i_idx, i_slc, q_add, q_sub, q_neg, q_lt, q_le, q_gt, q_ge, q_eqI, q_neI, q_isNN, q_isNT, q_isNI, q_isNL, q_isBB, q_isNB, q_isNS, q_isnNN, q_isnNT, q_isnNI, q_isnNL, q_andT, q_andF, q_orT, q_orF, q_not, q_toB, q_part, q_fzI, q_fzB, q_fzS, q_fzN, q_fzT, q_fzL, q_fzW, q_fzSt, q_fzSc, s_nil, s_cons, k_nx, k_rt, k_bk, k_ct, s_asg, s_asgF, s_asgT, k_asg, s_par, s_expr, s_iff, s_retN, s_raise, s_brk, s_cont, s_pass, s_frz, k_frzO, k_frzV, s_retV, k_retO, k_retV, s_ret_non, s_ret_bl, s_ret_int, s_ret_str, s_ret_con, s_ret_bin, s_ret_neg, s_ret_cmp, s_ret_chain, s_ret_and, s_ret_or, s_ret_not, s_ret_ite, s_ret_tup, s_ret_lst, s_ret_idx, s_ret_slc, s_ret_call, s_ret_callK, s_ret_op0, s_ret_op1, s_ret_callM, s_ret_blt, s_ret_isx, s_ret_isk, s_ret_comp, s_app, k_runR, k_runN, for_nil, k_forN, k_forC, k_forB, k_forR, g_nm, g_tp, o_some, noErr_ret, Yes, retK, ret_bind, err_bind, bad_bind, draw_bind, getV, slOf, slO, setAll, parT, List.length_cons, List.length_nil, List.map_cons, List.map_nil, List.getElem?_cons_zero, List.getElem?_cons_succ, List.set_cons_zero, List.set_cons_succ, List.cons_append, List.nil_append, List.replicate_succ, List.replicate_zero, fz1, fz2, e1]
  · rw [least_c h1] at h
    rw [need_c (by rw [← Bool.not_eq_true]; exact h1)] at e1
    have he : e = 2 := by cases h; rfl
    subst he
    simp only [e_non, e_bl, e_int, e_str, e_var, e_con, e_bin, e_neg, e_cmp, e_chain, e_and, e_or, e_not, e_ite, e_tup, e_lst, e_idx, e_slc, e_call, e_callK, e_blt, e_isk, e_caught, e_isx, e_op0, e_op1, e_callM, b_op1, b_callM, i_callK, i_op1, o_emp, o_revT, b_var, b_cmp, b_chain, b_and, b_or, b_not, b_yes, b_call, b_callK, b_blt, b_isx, b_isk, a_nil, a_cons, r_nil, r_cons, o_nopart, o_part, i_rng1, i_rng2, i_zip, i_enum, i_cap, i_var, i_blt, i_call, i_tup, i_lst, i_idx, i_slc, q_add, q_sub, q_neg, q_lt, q_le, q_gt, q_ge, q_eqI, q_neI, q_isNN, q_isNT, q_isNI, q_isNL, q_isBB, q_isNB, q_isNS, q_isnNN, q_isnNT, q_isnNI, q_isnNL, q_andT, q_andF, q_orT, q_orF, q_not, q_toB, q_part, q_fzI, q_fzB, q_fzS, q_fzN, q_fzT, q_fzL, q_fzW, q_fzSt, q_fzSc, s_nil, s_cons, k_nx, k_rt, k_bk, k_ct, s_asg, s_asgF, s_asgT, k_asg, s_par, s_expr, s_iff, s_retN, s_raise, s_brk, s_cont, s_pass, s_frz, k_frzO, k_frzV, s_retV, k_retO, k_retV, s_ret_non, s_ret_bl, s_ret_int, s_ret_str, s_ret_con, s_ret_bin, s_ret_neg, s_ret_cmp, s_ret_chain, s_ret_and, s_ret_or, s_ret_not, s_ret_ite, s_ret_tup, s_ret_lst, s_ret_idx, s_ret_slc, s_ret_call, s_ret_callK, s_ret_op0, s_ret_op1, s_ret_callM, s_ret_blt, s_ret_isx, s_ret_isk, s_ret_comp, s_app, k_runR, k_runN, for_nil, k_forN, k_forC, k_forB, k_forR, g_nm, g_tp, o_some, noErr_ret, Yes, retK, ret_bind, err_bind, bad_bind, draw_bind, getV, slOf, slO, setAll, parT, List.length_cons, List.length_nil, List.map_cons, List.map_nil, List.getElem?_cons_zero, List.getElem?_cons_succ, List.set_cons_zero, List.set_cons_succ, List.cons_append, List.nil_append, List.replicate_succ, List.replicate_zero, fz1, fz2, e1]
theorem f5i {n : Nat} {c w p q K : Int} {x3 x4 x6 : Sl} (n1 : inN 1 1000 (.int c) = true) (n2 : inN 1 c (.int w) = true) (h : isC (.tup [.int p, .int q]) = true) (h4 : whileL (evs (callF tab WH (n + 3)) tw5).B (ex (callF tab WH (n + 3)) WH bw5) WH [.val (.int c), .val (.int w), .val (.tup [.int p, .int q]), .val (.int 1), .val (.int 1), .val (.int 0), .un] = .ret (.nx [.val (.int c), .val (.int w), .val (.tup [.int p, .int q]), x3, x4, .val (.int K), x6])) : callF tab WH (n + 4) 5 [.int c, .int w, .tup [.int p, .int q]] = .ret (.int K) := by
  have hp : 0 ≤ p ∧ 1 ≤ q ∧ p < 1000000000000000000 ∧ q < 1000000000000000000 ∧ gz p q = 1 := of_decide_eq_true h
  obtain ⟨p0, q0, p1, q1, g1⟩ := hp
  show runD (callF tab WH (n + 3)) WH d5 _ = _
  rw [run_eq rfl]
  have e1 := f3 (n := n) (c := .int c) (w := .int w) (M := 1000) rfl rfl (by decide)
  rw [need_ok n1 n2] at e1
  have k1 : bltT .istup [.tup [.int p, .int q]] = .ret (.bl true) := rfl
  have k2 : bltT .len [.tup [.int p, .int q]] = .ret (.int 2) := rfl
  have k5 : frozen (.tup [.int p, .int q]) = some [.int p, .int q] := rfl
  have hcm := comp5 (n := n + 2) (r0 := .val (.int c)) (r1 := .val (.int w)) (v := .tup [.int p, .int q]) [.int p, .int q] (by
    intro d hd
    simp only [List.mem_cons, List.not_mem_nil, or_false] at hd
    rcases hd with rfl | rfl <;> rfl)
  simp only [List.map_cons, List.map_nil] at hcm
  have i1 := (ix2 (a := .int p) (b := .int q)).1
  have i2 := (ix2 (a := .int p) (b := .int q)).2
  have hf : (whB (.int p) && whB (.int q)) = true := by
    simp only [whB, Bool.and_eq_true, decide_eq_true_eq]
    omega
  have a1 : ¬ p < 0 := by omega
  have a2 : ¬ q < 1 := by omega
  rw [body5]
  simp only [d5, startE]
  unfold t5_0
  simp only [e_non, e_bl, e_int, e_str, e_var, e_con, e_bin, e_neg, e_cmp, e_chain, e_and, e_or, e_not, e_ite, e_tup, e_lst, e_idx, e_slc, e_call, e_callK, e_blt, e_isk, e_caught, e_isx, e_op0, e_op1, e_callM, b_op1, b_callM, i_callK, i_op1, o_emp, o_revT, b_var, b_cmp, b_chain, b_and, b_or, b_not, b_yes, b_call, b_callK, b_blt, b_isx, b_isk, a_nil, a_cons, r_nil, r_cons, o_nopart, o_part, i_rng1, i_rng2, i_zip, i_enum, i_cap, i_var, i_blt, i_call, i_tup, i_lst, i_idx, i_slc, q_add, q_sub, q_neg, q_lt, q_le, q_gt, q_ge, q_eqI, q_neI, q_isNN, q_isNT, q_isNI, q_isNL, q_isBB, q_isNB, q_isNS, q_isnNN, q_isnNT, q_isnNI, q_isnNL, q_andT, q_andF, q_orT, q_orF, q_not, q_toB, q_part, q_fzI, q_fzB, q_fzS, q_fzN, q_fzT, q_fzL, q_fzW, q_fzSt, q_fzSc, s_nil, s_cons, k_nx, k_rt, k_bk, k_ct, s_asg, s_asgF, s_asgT, k_asg, s_par, s_expr, s_iff, s_retN, s_raise, s_brk, s_cont, s_pass, s_frz, k_frzO, k_frzV, s_retV, k_retO, k_retV, s_ret_non, s_ret_bl, s_ret_int, s_ret_str, s_ret_con, s_ret_bin, s_ret_neg, s_ret_cmp, s_ret_chain, s_ret_and, s_ret_or, s_ret_not, s_ret_ite, s_ret_tup, s_ret_lst, s_ret_idx, s_ret_slc, s_ret_call, s_ret_callK, s_ret_op0, s_ret_op1, s_ret_callM, s_ret_blt, s_ret_isx, s_ret_isk, s_ret_comp, s_app, k_runR, k_runN, for_nil, k_forN, k_forC, k_forB, k_forR, g_nm, g_tp, o_some, noErr_ret, Yes, retK, ret_bind, err_bind, bad_bind, draw_bind, getV, slOf, slO, setAll, parT, List.length_cons, List.length_nil, List.map_cons, List.map_nil, List.getElem?_cons_zero, List.getElem?_cons_succ, List.set_cons_zero, List.set_cons_succ, List.cons_append, List.nil_append, List.replicate_succ, List.replicate_zero, e1]
  unfold t5_1
  simp only [e_non, e_bl, e_int, e_str, e_var, e_con, e_bin, e_neg, e_cmp, e_chain, e_and, e_or, e_not, e_ite, e_tup, e_lst, e_idx, e_slc, e_call, e_callK, e_blt, e_isk, e_caught, e_isx, e_op0, e_op1, e_callM, b_op1, b_callM, i_callK, i_op1, o_emp, o_revT, b_var, b_cmp, b_chain, b_and, b_or, b_not, b_yes, b_call, b_callK, b_blt, b_isx, b_isk, a_nil, a_cons, r_nil, r_cons, o_nopart, o_part, i_rng1, i_rng2, i_zip, i_enum, i_cap, i_var, i_blt, i_call, i_tup, i_lst, i_idx, i_slc, q_add, q_sub, q_neg, q_lt, q_le, q_gt, q_ge, q_eqI, q_neI, q_isNN, q_isNT, q_isNI, q_isNL, q_isBB, q_isNB, q_isNS, q_isnNN, q_isnNT, q_isnNI, q_isnNL, q_andT, q_andF, q_orT, q_orF, q_not, q_toB, q_part, q_fzI, q_fzB, q_fzS, q_fzN, q_fzT, q_fzL, q_fzW, q_fzSt, q_fzSc, s_nil, s_cons, k_nx, k_rt, k_bk, k_ct, s_asg, s_asgF, s_asgT, k_asg, s_par, s_expr, s_iff, s_retN, s_raise, s_brk, s_cont, s_pass, s_frz, k_frzO, k_frzV, s_retV, k_retO, k_retV, s_ret_non, s_ret_bl, s_ret_int, s_ret_str, s_ret_con, s_ret_bin, s_ret_neg, s_ret_cmp, s_ret_chain, s_ret_and, s_ret_or, s_ret_not, s_ret_ite, s_ret_tup, s_ret_lst, s_ret_idx, s_ret_slc, s_ret_call, s_ret_callK, s_ret_op0, s_ret_op1, s_ret_callM, s_ret_blt, s_ret_isx, s_ret_isk, s_ret_comp, s_app, k_runR, k_runN, for_nil, k_forN, k_forC, k_forB, k_forR, g_nm, g_tp, o_some, noErr_ret, Yes, retK, ret_bind, err_bind, bad_bind, draw_bind, getV, slOf, slO, setAll, parT, List.length_cons, List.length_nil, List.map_cons, List.map_nil, List.getElem?_cons_zero, List.getElem?_cons_succ, List.set_cons_zero, List.set_cons_succ, List.cons_append, List.nil_append, List.replicate_succ, List.replicate_zero, e_comp, k1, k2, k5, hcm, noErr_ret, all2, hf, Bool.not_true, Bool.not_false, decide_true, Bool.false_eq_true, if_false]
  unfold t5_2
  simp only [e_non, e_bl, e_int, e_str, e_var, e_con, e_bin, e_neg, e_cmp, e_chain, e_and, e_or, e_not, e_ite, e_tup, e_lst, e_idx, e_slc, e_call, e_callK, e_blt, e_isk, e_caught, e_isx, e_op0, e_op1, e_callM, b_op1, b_callM, i_callK, i_op1, o_emp, o_revT, b_var, b_cmp, b_chain, b_and, b_or, b_not, b_yes, b_call, b_callK, b_blt, b_isx, b_isk, a_nil, a_cons, r_nil, r_cons, o_nopart, o_part, i_rng1, i_rng2, i_zip, i_enum, i_cap, i_var, i_blt, i_call, i_tup, i_lst, i_idx, i_slc, q_add, q_sub, q_neg, q_lt, q_le, q_gt, q_ge, q_eqI, q_neI, q_isNN, q_isNT, q_isNI, q_isNL, q_isBB, q_isNB, q_isNS, q_isnNN, q_isnNT, q_isnNI, q_isnNL, q_andT, q_andF, q_orT, q_orF, q_not, q_toB, q_part, q_fzI, q_fzB, q_fzS, q_fzN, q_fzT, q_fzL, q_fzW, q_fzSt, q_fzSc, s_nil, s_cons, k_nx, k_rt, k_bk, k_ct, s_asg, s_asgF, s_asgT, k_asg, s_par, s_expr, s_iff, s_retN, s_raise, s_brk, s_cont, s_pass, s_frz, k_frzO, k_frzV, s_retV, k_retO, k_retV, s_ret_non, s_ret_bl, s_ret_int, s_ret_str, s_ret_con, s_ret_bin, s_ret_neg, s_ret_cmp, s_ret_chain, s_ret_and, s_ret_or, s_ret_not, s_ret_ite, s_ret_tup, s_ret_lst, s_ret_idx, s_ret_slc, s_ret_call, s_ret_callK, s_ret_op0, s_ret_op1, s_ret_callM, s_ret_blt, s_ret_isx, s_ret_isk, s_ret_comp, s_app, k_runR, k_runN, for_nil, k_forN, k_forC, k_forB, k_forR, g_nm, g_tp, o_some, noErr_ret, Yes, retK, ret_bind, err_bind, bad_bind, draw_bind, getV, slOf, slO, setAll, parT, List.length_cons, List.length_nil, List.map_cons, List.map_nil, List.getElem?_cons_zero, List.getElem?_cons_succ, List.set_cons_zero, List.set_cons_succ, List.cons_append, List.nil_append, List.replicate_succ, List.replicate_zero, i1, i2, a1, a2, gcd_gz, g1, decide_true, decide_false, Bool.not_true, Bool.false_eq_true, if_false]
  unfold t5_3
  simp only [e_non, e_bl, e_int, e_str, e_var, e_con, e_bin, e_neg, e_cmp, e_chain, e_and, e_or, e_not, e_ite, e_tup, e_lst, e_idx, e_slc, e_call, e_callK, e_blt, e_isk, e_caught, e_isx, e_op0, e_op1, e_callM, b_op1, b_callM, i_callK, i_op1, o_emp, o_revT, b_var, b_cmp, b_chain, b_and, b_or, b_not, b_yes, b_call, b_callK, b_blt, b_isx, b_isk, a_nil, a_cons, r_nil, r_cons, o_nopart, o_part, i_rng1, i_rng2, i_zip, i_enum, i_cap, i_var, i_blt, i_call, i_tup, i_lst, i_idx, i_slc, q_add, q_sub, q_neg, q_lt, q_le, q_gt, q_ge, q_eqI, q_neI, q_isNN, q_isNT, q_isNI, q_isNL, q_isBB, q_isNB, q_isNS, q_isnNN, q_isnNT, q_isnNI, q_isnNL, q_andT, q_andF, q_orT, q_orF, q_not, q_toB, q_part, q_fzI, q_fzB, q_fzS, q_fzN, q_fzT, q_fzL, q_fzW, q_fzSt, q_fzSc, s_nil, s_cons, k_nx, k_rt, k_bk, k_ct, s_asg, s_asgF, s_asgT, k_asg, s_par, s_expr, s_iff, s_retN, s_raise, s_brk, s_cont, s_pass, s_frz, k_frzO, k_frzV, s_retV, k_retO, k_retV, s_ret_non, s_ret_bl, s_ret_int, s_ret_str, s_ret_con, s_ret_bin, s_ret_neg, s_ret_cmp, s_ret_chain, s_ret_and, s_ret_or, s_ret_not, s_ret_ite, s_ret_tup, s_ret_lst, s_ret_idx, s_ret_slc, s_ret_call, s_ret_callK, s_ret_op0, s_ret_op1, s_ret_callM, s_ret_blt, s_ret_isx, s_ret_isk, s_ret_comp, s_app, k_runR, k_runN, for_nil, k_forN, k_forC, k_forB, k_forR, g_nm, g_tp, o_some, noErr_ret, Yes, retK, ret_bind, err_bind, bad_bind, draw_bind, getV, slOf, slO, setAll, parT, List.length_cons, List.length_nil, List.map_cons, List.map_nil, List.getElem?_cons_zero, List.getElem?_cons_succ, List.set_cons_zero, List.set_cons_succ, List.cons_append, List.nil_append, List.replicate_succ, List.replicate_zero, t3]
  unfold t5_4
  unfold tw5 bw5 at h4
  simp only [e_non, e_bl, e_int, e_str, e_var, e_con, e_bin, e_neg, e_cmp, e_chain, e_and, e_or, e_not, e_ite, e_tup, e_lst, e_idx, e_slc, e_call, e_callK, e_blt, e_isk, e_caught, e_isx, e_op0, e_op1, e_callM, b_op1, b_callM, i_callK, i_op1, o_emp, o_revT, b_var, b_cmp, b_chain, b_and, b_or, b_not, b_yes, b_call, b_callK, b_blt, b_isx, b_isk, a_nil, a_cons, r_nil, r_cons, o_nopart, o_part, i_rng1, i_rng2, i_zip, i_enum, i_cap, i_var, i_blt, i_call, i_tup, i_lst, i_idx, i_slc, q_add, q_sub, q_neg, q_lt, q_le, q_gt, q_ge, q_eqI, q_neI, q_isNN, q_isNT, q_isNI, q_isNL, q_isBB, q_isNB, q_isNS, q_isnNN, q_isnNT, q_isnNI, q_isnNL, q_andT, q_andF, q_orT, q_orF, q_not, q_toB, q_part, q_fzI, q_fzB, q_fzS, q_fzN, q_fzT, q_fzL, q_fzW, q_fzSt, q_fzSc, s_nil, s_cons, k_nx, k_rt, k_bk, k_ct, s_asg, s_asgF, s_asgT, k_asg, s_par, s_expr, s_iff, s_retN, s_raise, s_brk, s_cont, s_pass, s_frz, k_frzO, k_frzV, s_retV, k_retO, k_retV, s_ret_non, s_ret_bl, s_ret_int, s_ret_str, s_ret_con, s_ret_bin, s_ret_neg, s_ret_cmp, s_ret_chain, s_ret_and, s_ret_or, s_ret_not, s_ret_ite, s_ret_tup, s_ret_lst, s_ret_idx, s_ret_slc, s_ret_call, s_ret_callK, s_ret_op0, s_ret_op1, s_ret_callM, s_ret_blt, s_ret_isx, s_ret_isk, s_ret_comp, s_app, k_runR, k_runN, for_nil, k_forN, k_forC, k_forB, k_forR, g_nm, g_tp, o_some, noErr_ret, Yes, retK, ret_bind, err_bind, bad_bind, draw_bind, getV, slOf, slO, setAll, parT, List.length_cons, List.length_nil, List.map_cons, List.map_nil, List.getElem?_cons_zero, List.getElem?_cons_succ, List.set_cons_zero, List.set_cons_succ, List.cons_append, List.nil_append, List.replicate_succ, List.replicate_zero, s_while, h4]
  unfold t5_5
  simp only [e_non, e_bl, e_int, e_str, e_var, e_con, e_bin, e_neg, e_cmp, e_chain, e_and, e_or, e_not, e_ite, e_tup, e_lst, e_idx, e_slc, e_call, e_callK, e_blt, e_isk, e_caught, e_isx, e_op0, e_op1, e_callM, b_op1, b_callM, i_callK, i_op1, o_emp, o_revT, b_var, b_cmp, b_chain, b_and, b_or, b_not, b_yes, b_call, b_callK, b_blt, b_isx, b_isk, a_nil, a_cons, r_nil, r_cons, o_nopart, o_part, i_rng1, i_rng2, i_zip, i_enum, i_cap, i_var, i_blt, i_call, i_tup, i_lst, i_idx, i_slc, q_add, q_sub, q_neg, q_lt, q_le, q_gt, q_ge, q_eqI, q_neI, q_isNN, q_isNT, q_isNI, q_isNL, q_isBB, q_isNB, q_isNS, q_isnNN, q_isnNT, q_isnNI, q_isnNL, q_andT, q_andF, q_orT, q_orF, q_not, q_toB, q_part, q_fzI, q_fzB, q_fzS, q_fzN, q_fzT, q_fzL, q_fzW, q_fzSt, q_fzSc, s_nil, s_cons, k_nx, k_rt, k_bk, k_ct, s_asg, s_asgF, s_asgT, k_asg, s_par, s_expr, s_iff, s_retN, s_raise, s_brk, s_cont, s_pass, s_frz, k_frzO, k_frzV, s_retV, k_retO, k_retV, s_ret_non, s_ret_bl, s_ret_int, s_ret_str, s_ret_con, s_ret_bin, s_ret_neg, s_ret_cmp, s_ret_chain, s_ret_and, s_ret_or, s_ret_not, s_ret_ite, s_ret_tup, s_ret_lst, s_ret_idx, s_ret_slc, s_ret_call, s_ret_callK, s_ret_op0, s_ret_op1, s_ret_callM, s_ret_blt, s_ret_isx, s_ret_isk, s_ret_comp, s_app, k_runR, k_runN, for_nil, k_forN, k_forC, k_forB, k_forR, g_nm, g_tp, o_some, noErr_ret, Yes, retK, ret_bind, err_bind, bad_bind, draw_bind, getV, slOf, slO, setAll, parT, List.length_cons, List.length_nil, List.map_cons, List.map_nil, List.getElem?_cons_zero, List.getElem?_cons_succ, List.set_cons_zero, List.set_cons_succ, List.cons_append, List.nil_append, List.replicate_succ, List.replicate_zero]
theorem f5 {n : Nat} {c w p q : Int} (c1 : c ≤ 1000) (w1 : 1 ≤ w) (w2 : w ≤ c) (h : isC (.tup [.int p, .int q]) = true) : ∃ K : Int, 0 ≤ K ∧ K ≤ c - w + 1 ∧ ¬ (p * chI c K < chI (c - w) K * q) ∧ (K = 0 ∨ (p * chI c (K - 1) < chI (c - w) (K - 1) * q)) ∧ callF tab WH (n + 4) 5 [.int c, .int w, .tup [.int p, .int q]] = .ret (.int K) := by
  have hp : 0 ≤ p ∧ 1 ≤ q ∧ p < 1000000000000000000 ∧ q < 1000000000000000000 ∧ gz p q = 1 := of_decide_eq_true h
  obtain ⟨p0, q0, p1, q1, g1⟩ := hp
  have n1 : inN 1 1000 (.int c) = true := by
    show (decide (1 ≤ c) && decide (c ≤ 1000)) = true
    rw [decide_eq_true (show 1 ≤ c by omega), decide_eq_true c1]
    rfl
  have n2 : inN 1 c (.int w) = true := by
    show (decide (1 ≤ w) && decide (w ≤ c)) = true
    rw [decide_eq_true w1, decide_eq_true w2]
    rfl
  obtain ⟨c, rfl⟩ := Int.eq_ofNat_of_zero_le (show 0 ≤ c by omega)
  obtain ⟨w, rfl⟩ := Int.eq_ofNat_of_zero_le (show 0 ≤ w by omega)
  obtain ⟨K, h1, h2, _, h3, h4⟩ := loop5 (call := callF tab WH (n + 3)) (c := c) (w := w) (by omega) (by omega) p0 p1 (by omega) q1 (2000 - (c - w + 1) - 1) (c - w + 1) 0 (by omega)
  have hsub : ∀ k : Nat, chI ((c : Int) - (w : Int)) (k : Int) = ((ch (c - w) k : Nat) : Int) := fun k => by
    unfold chI
    rw [show ((c : Int) - (w : Int)).toNat = c - w by omega, Int.toNat_natCast]
  refine ⟨(K : Int), by omega, by omega, ?_, ?_, ?_⟩
  · rw [hsub, chI_nat]
    have := (fl_ch (n := c - w) (m := c) (k := K) (p := p) (q := q)).mp (by omega)
    omega
  · rcases h3 with e | e
    · exact .inl (by omega)
    · by_cases k0 : K = 0
      · exact .inl (by omega)
      · refine .inr ?_
        rw [show (K : Int) - 1 = ((K - 1 : Nat) : Int) by omega, hsub, chI_nat]
        have := mt (fl_ch (n := c - w) (m := c) (k := K - 1) (p := p) (q := q)).mpr (by omega)
        omega
  · rw [show c - w + 1 + 1 + (2000 - (c - w + 1) - 1) = WH by show _ = 2000; omega] at h4
    exact f5i n1 n2 h h4
end LW
end
section
set_option maxHeartbeats 1000000
namespace LW
open PySem PV
def t14_9 : S := .cons (.ret (.or (.cmp .eq (.var 4) (.int 0)) (.cmp .gt (.var 5) (.bin .mul (.idx (.var 2) (.int 0)) (.call 9 (.cons (.var 0) (.cons (.bin .sub (.var 4) (.int 1)) .nil))))))) .nil
def t14_8 : S := .cons (.asgF 5 (.ite (.cmp .gt (.var 4) (.int 0)) (.bin .mul (.call 9 (.cons (.bin .sub (.var 0) (.var 1)) (.cons (.bin .sub (.var 4) (.int 1)) .nil))) (.idx (.var 2) (.int 1))) (.int 0))) t14_9
def t14_7 : S := .cons (.iff (.cmp .gt (.bin .mul (.call 9 (.cons (.bin .sub (.var 0) (.var 1)) (.cons (.var 4) .nil))) (.idx (.var 2) (.int 1))) (.bin .mul (.idx (.var 2) (.int 0)) (.call 9 (.cons (.var 0) (.cons (.var 4) .nil))))) (.cons (.ret (.bl false)) .nil) .nil) t14_8
def t14_6 : S := .cons (.iff (.not (.call 8 (.cons (.var 4) (.cons (.bin .add (.bin .sub (.var 0) (.var 1)) (.int 2)) .nil)))) (.cons (.ret (.bl false)) .nil) .nil) t14_7
def t14_5 : S := .cons (.asgF 4 (.call 5 (.cons (.var 0) (.cons (.var 1) (.cons (.var 2) .nil))))) t14_6
def t14_4 : S := .cons (.iff (.cmp .isn (.var 3) .non) (.cons (.ret (.bl false)) .nil) .nil) t14_5
def t14_3 : S := .cons (.iff (.not (.call 13 (.cons (.var 2) .nil))) (.cons (.ret (.isx 5 1 (.var 3))) .nil) .nil) t14_4
def t14_2 : S := .cons (.iff (.or (.not (.call 8 (.cons (.var 1) (.cons (.bin .add (.var 0) (.int 1)) .nil)))) (.cmp .eq (.var 1) (.int 0))) (.cons (.ret (.isx 5 4 (.var 3))) .nil) .nil) t14_3
def t14_1 : S := .cons (.iff (.or (.not (.call 8 (.cons (.var 0) (.cons (.int 1001) .nil)))) (.cmp .eq (.var 0) (.int 0))) (.cons (.ret (.isx 5 2 (.var 3))) .nil) .nil) t14_2
def t14_0 : S := .cons (.asgF 3 (.caught 5 (.callK 5 [2, 1, 0] (.cons (.var 2) (.cons (.var 1) (.cons (.var 0) .nil)))))) t14_1
theorem body14 : d14.body = t14_0 := rfl
theorem inW_sub {m : Int} {d : D} (h : inW m d = true) (h2 : inN 1 (m - 1) d = false) : d = .int 0 := by
  obtain ⟨i, rfl, h0, h1⟩ := inW_int h
  have h2 : (decide (1 ≤ i) && decide (i ≤ m - 1)) = false := h2
  by_cases c : 1 ≤ i
  · rw [decide_eq_true c, decide_eq_true (show i ≤ m - 1 by omega)] at h2
    cases h2
  · rw [show i = 0 by omega]
theorem inN_W {m : Int} {d : D} (h : inN 1 (m - 1) d = true) : inW m d = true := by
  obtain ⟨i, rfl, h0, h1⟩ := inN_int h
  show (decide (0 ≤ i) && decide (i < m)) = true
  rw [decide_eq_true (show 0 ≤ i by omega), decide_eq_true (show i < m by omega)]
  rfl
theorem x_ct {e : Nat} (h : e < 5) : catchT 5 (.err e : T D) = .ret (.exc e) := if_pos h
theorem x_cr {d : D} : catchT 5 (.ret d : T D) = .ret .non := rfl
theorem x_is {e k : Nat} (h : e < 5) : isxT 5 k (.exc e) = .ret (.bl (decide (e = k))) := if_pos h
theorem fz_exc {e : Nat} : fz (.exc e) = .ret (.exc e) := rfl
theorem pm210 {a b c : D} : permD [2, 1, 0] [a, b, c] = some [c, b, a] := rfl
theorem eq00 : cmpT .eq (.int 0) (.int 0) = .ret true := by rw [q_eqI]; rfl
section
variable {k : Nat → List D → T D}
theorem f14A {c w v : D} (fz1 : fz c = .ret c) (fz2 : fz w = .ret w) (fz3 : fz v = .ret v) (h1 : inN 1 1000 c = false) (e5 : k 5 [c, w, v] = .err 2) (e8c : k 8 [c, .int 1001] = .ret (.bl (inW 1001 c))) : (ex k WH d14.body (startE d14.N [c, w, v]) >>= runK) = .ret (.bl true) := by
  rw [body14]
  simp only [d14, startE]
  unfold t14_0
  simp only [e_non, e_bl, e_int, e_str, e_var, e_con, e_bin, e_neg, e_cmp, e_chain, e_and, e_or, e_not, e_ite, e_tup, e_lst, e_idx, e_slc, e_call, e_callK, e_blt, e_isk, e_caught, e_isx, e_op0, e_op1, e_callM, b_op1, b_callM, i_callK, i_op1, o_emp, o_revT, b_var, b_cmp, b_chain, b_and, b_or, b_not, b_yes, b_call, b_callK, b_blt, b_isx, b_isk, a_nil, a_cons, r_nil, r_cons, o_nopart, o_part, i_rng1, i_rng2, i_zip, i_enum, i_cap, i_var, i_blt, i_call, i_tup, i_lst, i_idx, i_slc, q_add, q_sub, q_neg, q_lt, q_le, q_gt, q_ge, q_eqI, q_neI, q_isNN, q_isNT, q_isNI, q_isNL, q_isBB, q_isNB, q_isNS, q_isnNN, q_isnNT, q_isnNI, q_isnNL, q_andT, q_andF, q_orT, q_orF, q_not, q_toB, q_part, q_fzI, q_fzB, q_fzS, q_fzN, q_fzT, q_fzL, q_fzW, q_fzSt, q_fzSc, s_nil, s_cons, k_nx, k_rt, k_bk, k_ct, s_asg, s_asgF, s_asgT, k_asg, s_par, s_expr, s_iff, s_retN, s_raise, s_brk, s_cont, s_pass, s_frz, k_frzO, k_frzV, s_retV, k_retO, k_retV, s_ret_non, s_ret_bl, s_ret_int, s_ret_str, s_ret_con, s_ret_bin, s_ret_neg, s_ret_cmp, s_ret_chain, s_ret_and, s_ret_or, s_ret_not, s_ret_ite, s_ret_tup, s_ret_lst, s_ret_idx, s_ret_slc, s_ret_call, s_ret_callK, s_ret_op0, s_ret_op1, s_ret_callM, s_ret_blt, s_ret_isx, s_ret_isk, s_ret_comp, s_app, k_runR, k_runN, for_nil, k_forN, k_forC, k_forB, k_forR, g_nm, g_tp, o_some, noErr_ret, Yes, retK, ret_bind, err_bind, bad_bind, draw_bind, getV, slOf, slO, setAll, parT, List.length_cons, List.length_nil, List.map_cons, List.map_nil, List.getElem?_cons_zero, List.getElem?_cons_succ, List.set_cons_zero, List.set_cons_succ, List.cons_append, List.nil_append, List.replicate_succ, List.replicate_zero, fz1, fz2, fz3, pm210, e5, x_ct (show 2 < 5 by decide), fz_exc]
  unfold t14_1
  by_cases a : inW 1001 c = true
  · have := inW_sub a h1
    subst this
    simp only [e_non, e_bl, e_int, e_str, e_var, e_con, e_bin, e_neg, e_cmp, e_chain, e_and, e_or, e_not, e_ite, e_tup, e_lst, e_idx, e_slc, e_call, e_callK, e_blt, e_isk, e_caught, e_isx, e_op0, e_op1, e_callM, b_op1, b_callM, i_callK, i_op1, o_emp, o_revT, b_var, b_cmp, b_chain, b_and, b_or, b_not, b_yes, b_call, b_callK, b_blt, b_isx, b_isk, a_nil, a_cons, r_nil, r_cons, o_nopart, o_part, i_rng1, i_rng2, i_zip, i_enum, i_cap, i_var, i_blt, i_call, i_tup, i_lst, i_idx, i_slc, q_add, q_sub, q_neg, q_lt, q_le, q_gt, q_ge, q_eqI, q_neI, q_isNN, q_isNT, q_isNI, q_isNL, q_isBB, q_isNB, q_isNS, q_isnNN, q_isnNT, q_isnNI, q_isnNL, q_andT, q_andF, q_orT, q_orF, q_not, q_toB, q_part, q_fzI, q_fzB, q_fzS, q_fzN, q_fzT, q_fzL, q_fzW, q_fzSt, q_fzSc, s_nil, s_cons, k_nx, k_rt, k_bk, k_ct, s_asg, s_asgF, s_asgT, k_asg, s_par, s_expr, s_iff, s_retN, s_raise, s_brk, s_cont, s_pass, s_frz, k_frzO, k_frzV, s_retV, k_retO, k_retV, s_ret_non, s_ret_bl, s_ret_int, s_ret_str, s_ret_con, s_ret_bin, s_ret_neg, s_ret_cmp, s_ret_chain, s_ret_and, s_ret_or, s_ret_not, s_ret_ite, s_ret_tup, s_ret_lst, s_ret_idx, s_ret_slc, s_ret_call, s_ret_callK, s_ret_op0, s_ret_op1, s_ret_callM, s_ret_blt, s_ret_isx, s_ret_isk, s_ret_comp, s_app, k_runR, k_runN, for_nil, k_forN, k_forC, k_forB, k_forR, g_nm, g_tp, o_some, noErr_ret, Yes, retK, ret_bind, err_bind, bad_bind, draw_bind, getV, slOf, slO, setAll, parT, List.length_cons, List.length_nil, List.map_cons, List.map_nil, List.getElem?_cons_zero, List.getElem?_cons_succ, List.set_cons_zero, List.set_cons_succ, List.cons_append, List.nil_append, List.replicate_succ, List.replicate_zero, fz1, e8c, a, eq00, decide_true, Bool.not_true, Bool.false_eq_true, if_false, if_true, x_is (show 2 < 5 by decide)]
  · rw [Bool.not_eq_true] at a
    simp only [e_non, e_bl, e_int, e_str, e_var, e_con, e_bin, e_neg, e_cmp, e_chain, e_and, e_or, e_not, e_ite, e_tup, e_lst, e_idx, e_slc, e_call, e_callK, e_blt, e_isk, e_caught, e_isx, e_op0, e_op1, e_callM, b_op1, b_callM, i_callK, i_op1, o_emp, o_revT, b_var, b_cmp, b_chain, b_and, b_or, b_not, b_yes, b_call, b_callK, b_blt, b_isx, b_isk, a_nil, a_cons, r_nil, r_cons, o_nopart, o_part, i_rng1, i_rng2, i_zip, i_enum, i_cap, i_var, i_blt, i_call, i_tup, i_lst, i_idx, i_slc, q_add, q_sub, q_neg, q_lt, q_le, q_gt, q_ge, q_eqI, q_neI, q_isNN, q_isNT, q_isNI, q_isNL, q_isBB, q_isNB, q_isNS, q_isnNN, q_isnNT, q_isnNI, q_isnNL, q_andT, q_andF, q_orT, q_orF, q_not, q_toB, q_part, q_fzI, q_fzB, q_fzS, q_fzN, q_fzT, q_fzL, q_fzW, q_fzSt, q_fzSc, s_nil, s_cons, k_nx, k_rt, k_bk, k_ct, s_asg, s_asgF, s_asgT, k_asg, s_par, s_expr, s_iff, s_retN, s_raise, s_brk, s_cont, s_pass, s_frz, k_frzO, k_frzV, s_retV, k_retO, k_retV, s_ret_non, s_ret_bl, s_ret_int, s_ret_str, s_ret_con, s_ret_bin, s_ret_neg, s_ret_cmp, s_ret_chain, s_ret_and, s_ret_or, s_ret_not, s_ret_ite, s_ret_tup, s_ret_lst, s_ret_idx, s_ret_slc, s_ret_call, s_ret_callK, s_ret_op0, s_ret_op1, s_ret_callM, s_ret_blt, s_ret_isx, s_ret_isk, s_ret_comp, s_app, k_runR, k_runN, for_nil, k_forN, k_forC, k_forB, k_forR, g_nm, g_tp, o_some, noErr_ret, Yes, retK, ret_bind, err_bind, bad_bind, draw_bind, getV, slOf, slO, setAll, parT, List.length_cons, List.length_nil, List.map_cons, List.map_nil, List.getElem?_cons_zero, List.getElem?_cons_succ, List.set_cons_zero, List.set_cons_succ, List.cons_append, List.nil_append, List.replicate_succ, List.replicate_zero, fz1, e8c, a, Bool.not_false, if_true, x_is (show 2 < 5 by decide), decide_true]
def r14 (c w v e : D) : PV.Env := [.val c, .val w, .val v, .val e, .un, .un]
/-- the claims are right -/
theorem f14B {C : Int} {w v e : D} (C0 : C ≠ 0) (h1 : inW 1001 (.int C) = true) (e8c : k 8 [.int C, .int 1001] = .ret (.bl (inW 1001 (.int C)))) : ex k WH t14_1 (r14 (.int C) w v e) = ex k WH t14_2 (r14 (.int C) w v e) := by
  have cz : decide (C = 0) = false := decide_eq_false C0
  unfold t14_1 r14
  simp only [e_non, e_bl, e_int, e_str, e_var, e_con, e_bin, e_neg, e_cmp, e_chain, e_and, e_or, e_not, e_ite, e_tup, e_lst, e_idx, e_slc, e_call, e_callK, e_blt, e_isk, e_caught, e_isx, e_op0, e_op1, e_callM, b_op1, b_callM, i_callK, i_op1, o_emp, o_revT, b_var, b_cmp, b_chain, b_and, b_or, b_not, b_yes, b_call, b_callK, b_blt, b_isx, b_isk, a_nil, a_cons, r_nil, r_cons, o_nopart, o_part, i_rng1, i_rng2, i_zip, i_enum, i_cap, i_var, i_blt, i_call, i_tup, i_lst, i_idx, i_slc, q_add, q_sub, q_neg, q_lt, q_le, q_gt, q_ge, q_eqI, q_neI, q_isNN, q_isNT, q_isNI, q_isNL, q_isBB, q_isNB, q_isNS, q_isnNN, q_isnNT, q_isnNI, q_isnNL, q_andT, q_andF, q_orT, q_orF, q_not, q_toB, q_part, q_fzI, q_fzB, q_fzS, q_fzN, q_fzT, q_fzL, q_fzW, q_fzSt, q_fzSc, s_nil, s_cons, k_nx, k_rt, k_bk, k_ct, s_asg, s_asgF, s_asgT, k_asg, s_par, s_expr, s_iff, s_retN, s_raise, s_brk, s_cont, s_pass, s_frz, k_frzO, k_frzV, s_retV, k_retO, k_retV, s_ret_non, s_ret_bl, s_ret_int, s_ret_str, s_ret_con, s_ret_bin, s_ret_neg, s_ret_cmp, s_ret_chain, s_ret_and, s_ret_or, s_ret_not, s_ret_ite, s_ret_tup, s_ret_lst, s_ret_idx, s_ret_slc, s_ret_call, s_ret_callK, s_ret_op0, s_ret_op1, s_ret_callM, s_ret_blt, s_ret_isx, s_ret_isk, s_ret_comp, s_app, k_runR, k_runN, for_nil, k_forN, k_forC, k_forB, k_forR, g_nm, g_tp, o_some, noErr_ret, Yes, retK, ret_bind, err_bind, bad_bind, draw_bind, getV, slOf, slO, setAll, parT, List.length_cons, List.length_nil, List.map_cons, List.map_nil, List.getElem?_cons_zero, List.getElem?_cons_succ, List.set_cons_zero, List.set_cons_succ, List.cons_append, List.nil_append, List.replicate_succ, List.replicate_zero, e8c, h1, cz, Bool.not_true, Bool.false_eq_true, if_false]
theorem f14W {C W : Int} {v e : D} (W0 : W ≠ 0) (h2 : inW (C + 1) (.int W) = true) (e8w : k 8 [.int W, .int (C + 1)] = .ret (.bl (inW (C + 1) (.int W)))) : ex k WH t14_2 (r14 (.int C) (.int W) v e) = ex k WH t14_3 (r14 (.int C) (.int W) v e) := by
  have wz : decide (W = 0) = false := decide_eq_false W0
  unfold t14_2 r14
  simp only [e_non, e_bl, e_int, e_str, e_var, e_con, e_bin, e_neg, e_cmp, e_chain, e_and, e_or, e_not, e_ite, e_tup, e_lst, e_idx, e_slc, e_call, e_callK, e_blt, e_isk, e_caught, e_isx, e_op0, e_op1, e_callM, b_op1, b_callM, i_callK, i_op1, o_emp, o_revT, b_var, b_cmp, b_chain, b_and, b_or, b_not, b_yes, b_call, b_callK, b_blt, b_isx, b_isk, a_nil, a_cons, r_nil, r_cons, o_nopart, o_part, i_rng1, i_rng2, i_zip, i_enum, i_cap, i_var, i_blt, i_call, i_tup, i_lst, i_idx, i_slc, q_add, q_sub, q_neg, q_lt, q_le, q_gt, q_ge, q_eqI, q_neI, q_isNN, q_isNT, q_isNI, q_isNL, q_isBB, q_isNB, q_isNS, q_isnNN, q_isnNT, q_isnNI, q_isnNL, q_andT, q_andF, q_orT, q_orF, q_not, q_toB, q_part, q_fzI, q_fzB, q_fzS, q_fzN, q_fzT, q_fzL, q_fzW, q_fzSt, q_fzSc, s_nil, s_cons, k_nx, k_rt, k_bk, k_ct, s_asg, s_asgF, s_asgT, k_asg, s_par, s_expr, s_iff, s_retN, s_raise, s_brk, s_cont, s_pass, s_frz, k_frzO, k_frzV, s_retV, k_retO, k_retV, s_ret_non, s_ret_bl, s_ret_int, s_ret_str, s_ret_con, s_ret_bin, s_ret_neg, s_ret_cmp, s_ret_chain, s_ret_and, s_ret_or, s_ret_not, s_ret_ite, s_ret_tup, s_ret_lst, s_ret_idx, s_ret_slc, s_ret_call, s_ret_callK, s_ret_op0, s_ret_op1, s_ret_callM, s_ret_blt, s_ret_isx, s_ret_isk, s_ret_comp, s_app, k_runR, k_runN, for_nil, k_forN, k_forC, k_forB, k_forR, g_nm, g_tp, o_some, noErr_ret, Yes, retK, ret_bind, err_bind, bad_bind, draw_bind, getV, slOf, slO, setAll, parT, List.length_cons, List.length_nil, List.map_cons, List.map_nil, List.getElem?_cons_zero, List.getElem?_cons_succ, List.set_cons_zero, List.set_cons_succ, List.cons_append, List.nil_append, List.replicate_succ, List.replicate_zero, e8w, h2, wz, Bool.not_true, Bool.false_eq_true, if_false]
theorem f14w {C : Int} {w v : D} (fz2 : fz w = .ret w) (h2 : inN 1 C w = false) (e8w : k 8 [w, .int (C + 1)] = .ret (.bl (inW (C + 1) w))) : ex k WH t14_2 (r14 (.int C) w v (.exc 4)) = .ret (.rt (.bl true)) := by
  unfold t14_2 r14
  by_cases a : inW (C + 1) w = true
  · have := inW_sub a (by rw [Int.add_sub_cancel]; exact h2)
    subst this
    simp only [e_non, e_bl, e_int, e_str, e_var, e_con, e_bin, e_neg, e_cmp, e_chain, e_and, e_or, e_not, e_ite, e_tup, e_lst, e_idx, e_slc, e_call, e_callK, e_blt, e_isk, e_caught, e_isx, e_op0, e_op1, e_callM, b_op1, b_callM, i_callK, i_op1, o_emp, o_revT, b_var, b_cmp, b_chain, b_and, b_or, b_not, b_yes, b_call, b_callK, b_blt, b_isx, b_isk, a_nil, a_cons, r_nil, r_cons, o_nopart, o_part, i_rng1, i_rng2, i_zip, i_enum, i_cap, i_var, i_blt, i_call, i_tup, i_lst, i_idx, i_slc, q_add, q_sub, q_neg, q_lt, q_le, q_gt, q_ge, q_eqI, q_neI, q_isNN, q_isNT, q_isNI, q_isNL, q_isBB, q_isNB, q_isNS, q_isnNN, q_isnNT, q_isnNI, q_isnNL, q_andT, q_andF, q_orT, q_orF, q_not, q_toB, q_part, q_fzI, q_fzB, q_fzS, q_fzN, q_fzT, q_fzL, q_fzW, q_fzSt, q_fzSc, s_nil, s_cons, k_nx, k_rt, k_bk, k_ct, s_asg, s_asgF, s_asgT, k_asg, s_par, s_expr, s_iff, s_retN, s_raise, s_brk, s_cont, s_pass, s_frz, k_frzO, k_frzV, s_retV, k_retO, k_retV, s_ret_non, s_ret_bl, s_ret_int, s_ret_str, s_ret_con, s_ret_bin, s_ret_neg, s_ret_cmp, s_ret_chain, s_ret_and, s_ret_or, s_ret_not, s_ret_ite, s_ret_tup, s_ret_lst, s_ret_idx, s_ret_slc, s_ret_call, s_ret_callK, s_ret_op0, s_ret_op1, s_ret_callM, s_ret_blt, s_ret_isx, s_ret_isk, s_ret_comp, s_app, k_runR, k_runN, for_nil, k_forN, k_forC, k_forB, k_forR, g_nm, g_tp, o_some, noErr_ret, Yes, retK, ret_bind, err_bind, bad_bind, draw_bind, getV, slOf, slO, setAll, parT, List.length_cons, List.length_nil, List.map_cons, List.map_nil, List.getElem?_cons_zero, List.getElem?_cons_succ, List.set_cons_zero, List.set_cons_succ, List.cons_append, List.nil_append, List.replicate_succ, List.replicate_zero, e8w, a, eq00, decide_true, Bool.not_true, Bool.false_eq_true, if_false, if_true, x_is (show 4 < 5 by decide)]
  · rw [Bool.not_eq_true] at a
    simp only [e_non, e_bl, e_int, e_str, e_var, e_con, e_bin, e_neg, e_cmp, e_chain, e_and, e_or, e_not, e_ite, e_tup, e_lst, e_idx, e_slc, e_call, e_callK, e_blt, e_isk, e_caught, e_isx, e_op0, e_op1, e_callM, b_op1, b_callM, i_callK, i_op1, o_emp, o_revT, b_var, b_cmp, b_chain, b_and, b_or, b_not, b_yes, b_call, b_callK, b_blt, b_isx, b_isk, a_nil, a_cons, r_nil, r_cons, o_nopart, o_part, i_rng1, i_rng2, i_zip, i_enum, i_cap, i_var, i_blt, i_call, i_tup, i_lst, i_idx, i_slc, q_add, q_sub, q_neg, q_lt, q_le, q_gt, q_ge, q_eqI, q_neI, q_isNN, q_isNT, q_isNI, q_isNL, q_isBB, q_isNB, q_isNS, q_isnNN, q_isnNT, q_isnNI, q_isnNL, q_andT, q_andF, q_orT, q_orF, q_not, q_toB, q_part, q_fzI, q_fzB, q_fzS, q_fzN, q_fzT, q_fzL, q_fzW, q_fzSt, q_fzSc, s_nil, s_cons, k_nx, k_rt, k_bk, k_ct, s_asg, s_asgF, s_asgT, k_asg, s_par, s_expr, s_iff, s_retN, s_raise, s_brk, s_cont, s_pass, s_frz, k_frzO, k_frzV, s_retV, k_retO, k_retV, s_ret_non, s_ret_bl, s_ret_int, s_ret_str, s_ret_con, s_ret_bin, s_ret_neg, s_ret_cmp, s_ret_chain, s_ret_and, s_ret_or, s_ret_not, s_ret_ite, s_ret_tup, s_ret_lst, s_ret_idx, s_ret_slc, s_ret_call, s_ret_callK, s_ret_op0, s_ret_op1, s_ret_callM, s_ret_blt, s_ret_isx, s_ret_isk, s_ret_comp, s_app, k_runR, k_runN, for_nil, k_forN, k_forC, k_forB, k_forR, g_nm, g_tp, o_some, noErr_ret, Yes, retK, ret_bind, err_bind, bad_bind, draw_bind, getV, slOf, slO, setAll, parT, List.length_cons, List.length_nil, List.map_cons, List.map_nil, List.getElem?_cons_zero, List.getElem?_cons_succ, List.set_cons_zero, List.set_cons_succ, List.cons_append, List.nil_append, List.replicate_succ, List.replicate_zero, fz2, e8w, a, Bool.not_false, if_true, x_is (show 4 < 5 by decide), decide_true]
theorem f14v {C W : Int} {v : D} (fz3 : fz v = .ret v) (e13 : k 13 [v] = .ret (.bl false)) : ex k WH t14_3 (r14 (.int C) (.int W) v (.exc 1)) = .ret (.rt (.bl true)) := by
  unfold t14_3 r14
  simp only [e_non, e_bl, e_int, e_str, e_var, e_con, e_bin, e_neg, e_cmp, e_chain, e_and, e_or, e_not, e_ite, e_tup, e_lst, e_idx, e_slc, e_call, e_callK, e_blt, e_isk, e_caught, e_isx, e_op0, e_op1, e_callM, b_op1, b_callM, i_callK, i_op1, o_emp, o_revT, b_var, b_cmp, b_chain, b_and, b_or, b_not, b_yes, b_call, b_callK, b_blt, b_isx, b_isk, a_nil, a_cons, r_nil, r_cons, o_nopart, o_part, i_rng1, i_rng2, i_zip, i_enum, i_cap, i_var, i_blt, i_call, i_tup, i_lst, i_idx, i_slc, q_add, q_sub, q_neg, q_lt, q_le, q_gt, q_ge, q_eqI, q_neI, q_isNN, q_isNT, q_isNI, q_isNL, q_isBB, q_isNB, q_isNS, q_isnNN, q_isnNT, q_isnNI, q_isnNL, q_andT, q_andF, q_orT, q_orF, q_not, q_toB, q_part, q_fzI, q_fzB, q_fzS, q_fzN, q_fzT, q_fzL, q_fzW, q_fzSt, q_fzSc, s_nil, s_cons, k_nx, k_rt, k_bk, k_ct, s_asg, s_asgF, s_asgT, k_asg, s_par, s_expr, s_iff, s_retN, s_raise, s_brk, s_cont, s_pass, s_frz, k_frzO, k_frzV, s_retV, k_retO, k_retV, s_ret_non, s_ret_bl, s_ret_int, s_ret_str, s_ret_con, s_ret_bin, s_ret_neg, s_ret_cmp, s_ret_chain, s_ret_and, s_ret_or, s_ret_not, s_ret_ite, s_ret_tup, s_ret_lst, s_ret_idx, s_ret_slc, s_ret_call, s_ret_callK, s_ret_op0, s_ret_op1, s_ret_callM, s_ret_blt, s_ret_isx, s_ret_isk, s_ret_comp, s_app, k_runR, k_runN, for_nil, k_forN, k_forC, k_forB, k_forR, g_nm, g_tp, o_some, noErr_ret, Yes, retK, ret_bind, err_bind, bad_bind, draw_bind, getV, slOf, slO, setAll, parT, List.length_cons, List.length_nil, List.map_cons, List.map_nil, List.getElem?_cons_zero, List.getElem?_cons_succ, List.set_cons_zero, List.set_cons_succ, List.cons_append, List.nil_append, List.replicate_succ, List.replicate_zero, fz3, e13, Bool.not_false, if_true, x_is (show 1 < 5 by decide), decide_true]
theorem f14e {C : Int} {w v : D} {e : Nat} (he : e < 5) (fz2 : fz w = .ret w) (fz3 : fz v = .ret v) (e5 : k 5 [.int C, w, v] = .err e) : ex k WH t14_0 [.val (.int C), .val w, .val v, .un, .un, .un] = ex k WH t14_1 (r14 (.int C) w v (.exc e)) := by
  unfold t14_0 r14
  simp only [e_non, e_bl, e_int, e_str, e_var, e_con, e_bin, e_neg, e_cmp, e_chain, e_and, e_or, e_not, e_ite, e_tup, e_lst, e_idx, e_slc, e_call, e_callK, e_blt, e_isk, e_caught, e_isx, e_op0, e_op1, e_callM, b_op1, b_callM, i_callK, i_op1, o_emp, o_revT, b_var, b_cmp, b_chain, b_and, b_or, b_not, b_yes, b_call, b_callK, b_blt, b_isx, b_isk, a_nil, a_cons, r_nil, r_cons, o_nopart, o_part, i_rng1, i_rng2, i_zip, i_enum, i_cap, i_var, i_blt, i_call, i_tup, i_lst, i_idx, i_slc, q_add, q_sub, q_neg, q_lt, q_le, q_gt, q_ge, q_eqI, q_neI, q_isNN, q_isNT, q_isNI, q_isNL, q_isBB, q_isNB, q_isNS, q_isnNN, q_isnNT, q_isnNI, q_isnNL, q_andT, q_andF, q_orT, q_orF, q_not, q_toB, q_part, q_fzI, q_fzB, q_fzS, q_fzN, q_fzT, q_fzL, q_fzW, q_fzSt, q_fzSc, s_nil, s_cons, k_nx, k_rt, k_bk, k_ct, s_asg, s_asgF, s_asgT, k_asg, s_par, s_expr, s_iff, s_retN, s_raise, s_brk, s_cont, s_pass, s_frz, k_frzO, k_frzV, s_retV, k_retO, k_retV, s_ret_non, s_ret_bl, s_ret_int, s_ret_str, s_ret_con, s_ret_bin, s_ret_neg, s_ret_cmp, s_ret_chain, s_ret_and, s_ret_or, s_ret_not, s_ret_ite, s_ret_tup, s_ret_lst, s_ret_idx, s_ret_slc, s_ret_call, s_ret_callK, s_ret_op0, s_ret_op1, s_ret_callM, s_ret_blt, s_ret_isx, s_ret_isk, s_ret_comp, s_app, k_runR, k_runN, for_nil, k_forN, k_forC, k_forB, k_forR, g_nm, g_tp, o_some, noErr_ret, Yes, retK, ret_bind, err_bind, bad_bind, draw_bind, getV, slOf, slO, setAll, parT, List.length_cons, List.length_nil, List.map_cons, List.map_nil, List.getElem?_cons_zero, List.getElem?_cons_succ, List.set_cons_zero, List.set_cons_succ, List.cons_append, List.nil_append, List.replicate_succ, List.replicate_zero, fz2, fz3, pm210, e5, x_ct he, fz_exc]
theorem f14g {C W p q K : Int} (e5 : k 5 [.int C, .int W, .tup [.int p, .int q]] = .ret (.int K)) : ex k WH t14_0 [.val (.int C), .val (.int W), .val (.tup [.int p, .int q]), .un, .un, .un] = ex k WH t14_1 (r14 (.int C) (.int W) (.tup [.int p, .int q]) .non) := by
  unfold t14_0 r14
  simp only [e_non, e_bl, e_int, e_str, e_var, e_con, e_bin, e_neg, e_cmp, e_chain, e_and, e_or, e_not, e_ite, e_tup, e_lst, e_idx, e_slc, e_call, e_callK, e_blt, e_isk, e_caught, e_isx, e_op0, e_op1, e_callM, b_op1, b_callM, i_callK, i_op1, o_emp, o_revT, b_var, b_cmp, b_chain, b_and, b_or, b_not, b_yes, b_call, b_callK, b_blt, b_isx, b_isk, a_nil, a_cons, r_nil, r_cons, o_nopart, o_part, i_rng1, i_rng2, i_zip, i_enum, i_cap, i_var, i_blt, i_call, i_tup, i_lst, i_idx, i_slc, q_add, q_sub, q_neg, q_lt, q_le, q_gt, q_ge, q_eqI, q_neI, q_isNN, q_isNT, q_isNI, q_isNL, q_isBB, q_isNB, q_isNS, q_isnNN, q_isnNT, q_isnNI, q_isnNL, q_andT, q_andF, q_orT, q_orF, q_not, q_toB, q_part, q_fzI, q_fzB, q_fzS, q_fzN, q_fzT, q_fzL, q_fzW, q_fzSt, q_fzSc, s_nil, s_cons, k_nx, k_rt, k_bk, k_ct, s_asg, s_asgF, s_asgT, k_asg, s_par, s_expr, s_iff, s_retN, s_raise, s_brk, s_cont, s_pass, s_frz, k_frzO, k_frzV, s_retV, k_retO, k_retV, s_ret_non, s_ret_bl, s_ret_int, s_ret_str, s_ret_con, s_ret_bin, s_ret_neg, s_ret_cmp, s_ret_chain, s_ret_and, s_ret_or, s_ret_not, s_ret_ite, s_ret_tup, s_ret_lst, s_ret_idx, s_ret_slc, s_ret_call, s_ret_callK, s_ret_op0, s_ret_op1, s_ret_callM, s_ret_blt, s_ret_isx, s_ret_isk, s_ret_comp, s_app, k_runR, k_runN, for_nil, k_forN, k_forC, k_forB, k_forR, g_nm, g_tp, o_some, noErr_ret, Yes, retK, ret_bind, err_bind, bad_bind, draw_bind, getV, slOf, slO, setAll, parT, List.length_cons, List.length_nil, List.map_cons, List.map_nil, List.getElem?_cons_zero, List.getElem?_cons_succ, List.set_cons_zero, List.set_cons_succ, List.cons_append, List.nil_append, List.replicate_succ, List.replicate_zero, pm210, e5, x_cr]
theorem f14h {C W p q K : Int} (e5 : k 5 [.int C, .int W, .tup [.int p, .int q]] = .ret (.int K)) (e13 : k 13 [.tup [.int p, .int q]] = .ret (.bl true)) : ex k WH t14_3 (r14 (.int C) (.int W) (.tup [.int p, .int q]) .non) = ex k WH t14_6 [.val (.int C), .val (.int W), .val (.tup [.int p, .int q]), .val .non, .val (.int K), .un] := by
  unfold t14_3 r14
  simp only [e_non, e_bl, e_int, e_str, e_var, e_con, e_bin, e_neg, e_cmp, e_chain, e_and, e_or, e_not, e_ite, e_tup, e_lst, e_idx, e_slc, e_call, e_callK, e_blt, e_isk, e_caught, e_isx, e_op0, e_op1, e_callM, b_op1, b_callM, i_callK, i_op1, o_emp, o_revT, b_var, b_cmp, b_chain, b_and, b_or, b_not, b_yes, b_call, b_callK, b_blt, b_isx, b_isk, a_nil, a_cons, r_nil, r_cons, o_nopart, o_part, i_rng1, i_rng2, i_zip, i_enum, i_cap, i_var, i_blt, i_call, i_tup, i_lst, i_idx, i_slc, q_add, q_sub, q_neg, q_lt, q_le, q_gt, q_ge, q_eqI, q_neI, q_isNN, q_isNT, q_isNI, q_isNL, q_isBB, q_isNB, q_isNS, q_isnNN, q_isnNT, q_isnNI, q_isnNL, q_andT, q_andF, q_orT, q_orF, q_not, q_toB, q_part, q_fzI, q_fzB, q_fzS, q_fzN, q_fzT, q_fzL, q_fzW, q_fzSt, q_fzSc, s_nil, s_cons, k_nx, k_rt, k_bk, k_ct, s_asg, s_asgF, s_asgT, k_asg, s_par, s_expr, s_iff, s_retN, s_raise, s_brk, s_cont, s_pass, s_frz, k_frzO, k_frzV, s_retV, k_retO, k_retV, s_ret_non, s_ret_bl, s_ret_int, s_ret_str, s_ret_con, s_ret_bin, s_ret_neg, s_ret_cmp, s_ret_chain, s_ret_and, s_ret_or, s_ret_not, s_ret_ite, s_ret_tup, s_ret_lst, s_ret_idx, s_ret_slc, s_ret_call, s_ret_callK, s_ret_op0, s_ret_op1, s_ret_callM, s_ret_blt, s_ret_isx, s_ret_isk, s_ret_comp, s_app, k_runR, k_runN, for_nil, k_forN, k_forC, k_forB, k_forR, g_nm, g_tp, o_some, noErr_ret, Yes, retK, ret_bind, err_bind, bad_bind, draw_bind, getV, slOf, slO, setAll, parT, List.length_cons, List.length_nil, List.map_cons, List.map_nil, List.getElem?_cons_zero, List.getElem?_cons_succ, List.set_cons_zero, List.set_cons_succ, List.cons_append, List.nil_append, List.replicate_succ, List.replicate_zero, e13, Bool.not_true, Bool.false_eq_true, if_false]
  unfold t14_4
  simp only [e_non, e_bl, e_int, e_str, e_var, e_con, e_bin, e_neg, e_cmp, e_chain, e_and, e_or, e_not, e_ite, e_tup, e_lst, e_idx, e_slc, e_call, e_callK, e_blt, e_isk, e_caught, e_isx, e_op0, e_op1, e_callM, b_op1, b_callM, i_callK, i_op1, o_emp, o_revT, b_var, b_cmp, b_chain, b_and, b_or, b_not, b_yes, b_call, b_callK, b_blt, b_isx, b_isk, a_nil, a_cons, r_nil, r_cons, o_nopart, o_part, i_rng1, i_rng2, i_zip, i_enum, i_cap, i_var, i_blt, i_call, i_tup, i_lst, i_idx, i_slc, q_add, q_sub, q_neg, q_lt, q_le, q_gt, q_ge, q_eqI, q_neI, q_isNN, q_isNT, q_isNI, q_isNL, q_isBB, q_isNB, q_isNS, q_isnNN, q_isnNT, q_isnNI, q_isnNL, q_andT, q_andF, q_orT, q_orF, q_not, q_toB, q_part, q_fzI, q_fzB, q_fzS, q_fzN, q_fzT, q_fzL, q_fzW, q_fzSt, q_fzSc, s_nil, s_cons, k_nx, k_rt, k_bk, k_ct, s_asg, s_asgF, s_asgT, k_asg, s_par, s_expr, s_iff, s_retN, s_raise, s_brk, s_cont, s_pass, s_frz, k_frzO, k_frzV, s_retV, k_retO, k_retV, s_ret_non, s_ret_bl, s_ret_int, s_ret_str, s_ret_con, s_ret_bin, s_ret_neg, s_ret_cmp, s_ret_chain, s_ret_and, s_ret_or, s_ret_not, s_ret_ite, s_ret_tup, s_ret_lst, s_ret_idx, s_ret_slc, s_ret_call, s_ret_callK, s_ret_op0, s_ret_op1, s_ret_callM, s_ret_blt, s_ret_isx, s_ret_isk, s_ret_comp, s_app, k_runR, k_runN, for_nil, k_forN, k_forC, k_forB, k_forR, g_nm, g_tp, o_some, noErr_ret, Yes, retK, ret_bind, err_bind, bad_bind, draw_bind, getV, slOf, slO, setAll, parT, List.length_cons, List.length_nil, List.map_cons, List.map_nil, List.getElem?_cons_zero, List.getElem?_cons_succ, List.set_cons_zero, List.set_cons_succ, List.cons_append, List.nil_append, List.replicate_succ, List.replicate_zero, Bool.false_eq_true, if_false]
  unfold t14_5
  simp only [e_non, e_bl, e_int, e_str, e_var, e_con, e_bin, e_neg, e_cmp, e_chain, e_and, e_or, e_not, e_ite, e_tup, e_lst, e_idx, e_slc, e_call, e_callK, e_blt, e_isk, e_caught, e_isx, e_op0, e_op1, e_callM, b_op1, b_callM, i_callK, i_op1, o_emp, o_revT, b_var, b_cmp, b_chain, b_and, b_or, b_not, b_yes, b_call, b_callK, b_blt, b_isx, b_isk, a_nil, a_cons, r_nil, r_cons, o_nopart, o_part, i_rng1, i_rng2, i_zip, i_enum, i_cap, i_var, i_blt, i_call, i_tup, i_lst, i_idx, i_slc, q_add, q_sub, q_neg, q_lt, q_le, q_gt, q_ge, q_eqI, q_neI, q_isNN, q_isNT, q_isNI, q_isNL, q_isBB, q_isNB, q_isNS, q_isnNN, q_isnNT, q_isnNI, q_isnNL, q_andT, q_andF, q_orT, q_orF, q_not, q_toB, q_part, q_fzI, q_fzB, q_fzS, q_fzN, q_fzT, q_fzL, q_fzW, q_fzSt, q_fzSc, s_nil, s_cons, k_nx, k_rt, k_bk, k_ct, s_asg, s_asgF, s_asgT, k_asg, s_par, s_expr, s_iff, s_retN, s_raise, s_brk, s_cont, s_pass, s_frz, k_frzO, k_frzV, s_retV, k_retO, k_retV, s_ret_non, s_ret_bl, s_ret_int, s_ret_str, s_ret_con, s_ret_bin, s_ret_neg, s_ret_cmp, s_ret_chain, s_ret_and, s_ret_or, s_ret_not, s_ret_ite, s_ret_tup, s_ret_lst, s_ret_idx, s_ret_slc, s_ret_call, s_ret_callK, s_ret_op0, s_ret_op1, s_ret_callM, s_ret_blt, s_ret_isx, s_ret_isk, s_ret_comp, s_app, k_runR, k_runN, for_nil, k_forN, k_forC, k_forB, k_forR, g_nm, g_tp, o_some, noErr_ret, Yes, retK, ret_bind, err_bind, bad_bind, draw_bind, getV, slOf, slO, setAll, parT, List.length_cons, List.length_nil, List.map_cons, List.map_nil, List.getElem?_cons_zero, List.getElem?_cons_succ, List.set_cons_zero, List.set_cons_succ, List.cons_append, List.nil_append, List.replicate_succ, List.replicate_zero, e5]
theorem f14i {C W p q K x y : Int} (e8 : k 8 [.int K, .int (C - W + 2)] = .ret (.bl true)) (e91 : k 9 [.int (C - W), .int K] = .ret (.int x)) (e92 : k 9 [.int C, .int K] = .ret (.int y)) (m1 : binT .mul (.int x) (.int q) = .ret (.int (x * q))) (m2 : binT .mul (.int p) (.int y) = .ret (.int (p * y))) (n1 : decide (p * y < x * q) = false) : ex k WH t14_6 [.val (.int C), .val (.int W), .val (.tup [.int p, .int q]), .val .non, .val (.int K), .un] = ex k WH t14_8 [.val (.int C), .val (.int W), .val (.tup [.int p, .int q]), .val .non, .val (.int K), .un] := by
  have i1 := (ix2 (a := .int p) (b := .int q)).1
  have i2 := (ix2 (a := .int p) (b := .int q)).2
  unfold t14_6
  simp only [e_non, e_bl, e_int, e_str, e_var, e_con, e_bin, e_neg, e_cmp, e_chain, e_and, e_or, e_not, e_ite, e_tup, e_lst, e_idx, e_slc, e_call, e_callK, e_blt, e_isk, e_caught, e_isx, e_op0, e_op1, e_callM, b_op1, b_callM, i_callK, i_op1, o_emp, o_revT, b_var, b_cmp, b_chain, b_and, b_or, b_not, b_yes, b_call, b_callK, b_blt, b_isx, b_isk, a_nil, a_cons, r_nil, r_cons, o_nopart, o_part, i_rng1, i_rng2, i_zip, i_enum, i_cap, i_var, i_blt, i_call, i_tup, i_lst, i_idx, i_slc, q_add, q_sub, q_neg, q_lt, q_le, q_gt, q_ge, q_eqI, q_neI, q_isNN, q_isNT, q_isNI, q_isNL, q_isBB, q_isNB, q_isNS, q_isnNN, q_isnNT, q_isnNI, q_isnNL, q_andT, q_andF, q_orT, q_orF, q_not, q_toB, q_part, q_fzI, q_fzB, q_fzS, q_fzN, q_fzT, q_fzL, q_fzW, q_fzSt, q_fzSc, s_nil, s_cons, k_nx, k_rt, k_bk, k_ct, s_asg, s_asgF, s_asgT, k_asg, s_par, s_expr, s_iff, s_retN, s_raise, s_brk, s_cont, s_pass, s_frz, k_frzO, k_frzV, s_retV, k_retO, k_retV, s_ret_non, s_ret_bl, s_ret_int, s_ret_str, s_ret_con, s_ret_bin, s_ret_neg, s_ret_cmp, s_ret_chain, s_ret_and, s_ret_or, s_ret_not, s_ret_ite, s_ret_tup, s_ret_lst, s_ret_idx, s_ret_slc, s_ret_call, s_ret_callK, s_ret_op0, s_ret_op1, s_ret_callM, s_ret_blt, s_ret_isx, s_ret_isk, s_ret_comp, s_app, k_runR, k_runN, for_nil, k_forN, k_forC, k_forB, k_forR, g_nm, g_tp, o_some, noErr_ret, Yes, retK, ret_bind, err_bind, bad_bind, draw_bind, getV, slOf, slO, setAll, parT, List.length_cons, List.length_nil, List.map_cons, List.map_nil, List.getElem?_cons_zero, List.getElem?_cons_succ, List.set_cons_zero, List.set_cons_succ, List.cons_append, List.nil_append, List.replicate_succ, List.replicate_zero, e8, Bool.not_true, Bool.false_eq_true, if_false]
  unfold t14_7
  simp only [e_non, e_bl, e_int, e_str, e_var, e_con, e_bin, e_neg, e_cmp, e_chain, e_and, e_or, e_not, e_ite, e_tup, e_lst, e_idx, e_slc, e_call, e_callK, e_blt, e_isk, e_caught, e_isx, e_op0, e_op1, e_callM, b_op1, b_callM, i_callK, i_op1, o_emp, o_revT, b_var, b_cmp, b_chain, b_and, b_or, b_not, b_yes, b_call, b_callK, b_blt, b_isx, b_isk, a_nil, a_cons, r_nil, r_cons, o_nopart, o_part, i_rng1, i_rng2, i_zip, i_enum, i_cap, i_var, i_blt, i_call, i_tup, i_lst, i_idx, i_slc, q_add, q_sub, q_neg, q_lt, q_le, q_gt, q_ge, q_eqI, q_neI, q_isNN, q_isNT, q_isNI, q_isNL, q_isBB, q_isNB, q_isNS, q_isnNN, q_isnNT, q_isnNI, q_isnNL, q_andT, q_andF, q_orT, q_orF, q_not, q_toB, q_part, q_fzI, q_fzB, q_fzS, q_fzN, q_fzT, q_fzL, q_fzW, q_fzSt, q_fzSc, s_nil, s_cons, k_nx, k_rt, k_bk, k_ct, s_asg, s_asgF, s_asgT, k_asg, s_par, s_expr, s_iff, s_retN, s_raise, s_brk, s_cont, s_pass, s_frz, k_frzO, k_frzV, s_retV, k_retO, k_retV, s_ret_non, s_ret_bl, s_ret_int, s_ret_str, s_ret_con, s_ret_bin, s_ret_neg, s_ret_cmp, s_ret_chain, s_ret_and, s_ret_or, s_ret_not, s_ret_ite, s_ret_tup, s_ret_lst, s_ret_idx, s_ret_slc, s_ret_call, s_ret_callK, s_ret_op0, s_ret_op1, s_ret_callM, s_ret_blt, s_ret_isx, s_ret_isk, s_ret_comp, s_app, k_runR, k_runN, for_nil, k_forN, k_forC, k_forB, k_forR, g_nm, g_tp, o_some, noErr_ret, Yes, retK, ret_bind, err_bind, bad_bind, draw_bind, getV, slOf, slO, setAll, parT, List.length_cons, List.length_nil, List.map_cons, List.map_nil, List.getElem?_cons_zero, List.getElem?_cons_succ, List.set_cons_zero, List.set_cons_succ, List.cons_append, List.nil_append, List.replicate_succ, List.replicate_zero, e91, e92, i1, i2, m1, m2, n1, Bool.false_eq_true, if_false]
theorem f14z {C W p q : Int} : ex k WH t14_8 [.val (.int C), .val (.int W), .val (.tup [.int p, .int q]), .val .non, .val (.int 0), .un] = .ret (.rt (.bl true)) := by
  have z1 : decide ((0 : Int) < 0) = false := rfl
  have z2 : decide ((0 : Int) = 0) = true := rfl
  unfold t14_8
  simp only [e_non, e_bl, e_int, e_str, e_var, e_con, e_bin, e_neg, e_cmp, e_chain, e_and, e_or, e_not, e_ite, e_tup, e_lst, e_idx, e_slc, e_call, e_callK, e_blt, e_isk, e_caught, e_isx, e_op0, e_op1, e_callM, b_op1, b_callM, i_callK, i_op1, o_emp, o_revT, b_var, b_cmp, b_chain, b_and, b_or, b_not, b_yes, b_call, b_callK, b_blt, b_isx, b_isk, a_nil, a_cons, r_nil, r_cons, o_nopart, o_part, i_rng1, i_rng2, i_zip, i_enum, i_cap, i_var, i_blt, i_call, i_tup, i_lst, i_idx, i_slc, q_add, q_sub, q_neg, q_lt, q_le, q_gt, q_ge, q_eqI, q_neI, q_isNN, q_isNT, q_isNI, q_isNL, q_isBB, q_isNB, q_isNS, q_isnNN, q_isnNT, q_isnNI, q_isnNL, q_andT, q_andF, q_orT, q_orF, q_not, q_toB, q_part, q_fzI, q_fzB, q_fzS, q_fzN, q_fzT, q_fzL, q_fzW, q_fzSt, q_fzSc, s_nil, s_cons, k_nx, k_rt, k_bk, k_ct, s_asg, s_asgF, s_asgT, k_asg, s_par, s_expr, s_iff, s_retN, s_raise, s_brk, s_cont, s_pass, s_frz, k_frzO, k_frzV, s_retV, k_retO, k_retV, s_ret_non, s_ret_bl, s_ret_int, s_ret_str, s_ret_con, s_ret_bin, s_ret_neg, s_ret_cmp, s_ret_chain, s_ret_and, s_ret_or, s_ret_not, s_ret_ite, s_ret_tup, s_ret_lst, s_ret_idx, s_ret_slc, s_ret_call, s_ret_callK, s_ret_op0, s_ret_op1, s_ret_callM, s_ret_blt, s_ret_isx, s_ret_isk, s_ret_comp, s_app, k_runR, k_runN, for_nil, k_forN, k_forC, k_forB, k_forR, g_nm, g_tp, o_some, noErr_ret, Yes, retK, ret_bind, err_bind, bad_bind, draw_bind, getV, slOf, slO, setAll, parT, List.length_cons, List.length_nil, List.map_cons, List.map_nil, List.getElem?_cons_zero, List.getElem?_cons_succ, List.set_cons_zero, List.set_cons_succ, List.cons_append, List.nil_append, List.replicate_succ, List.replicate_zero, z1, Bool.false_eq_true, if_false]
  unfold t14_9
  simp only [e_non, e_bl, e_int, e_str, e_var, e_con, e_bin, e_neg, e_cmp, e_chain, e_and, e_or, e_not, e_ite, e_tup, e_lst, e_idx, e_slc, e_call, e_callK, e_blt, e_isk, e_caught, e_isx, e_op0, e_op1, e_callM, b_op1, b_callM, i_callK, i_op1, o_emp, o_revT, b_var, b_cmp, b_chain, b_and, b_or, b_not, b_yes, b_call, b_callK, b_blt, b_isx, b_isk, a_nil, a_cons, r_nil, r_cons, o_nopart, o_part, i_rng1, i_rng2, i_zip, i_enum, i_cap, i_var, i_blt, i_call, i_tup, i_lst, i_idx, i_slc, q_add, q_sub, q_neg, q_lt, q_le, q_gt, q_ge, q_eqI, q_neI, q_isNN, q_isNT, q_isNI, q_isNL, q_isBB, q_isNB, q_isNS, q_isnNN, q_isnNT, q_isnNI, q_isnNL, q_andT, q_andF, q_orT, q_orF, q_not, q_toB, q_part, q_fzI, q_fzB, q_fzS, q_fzN, q_fzT, q_fzL, q_fzW, q_fzSt, q_fzSc, s_nil, s_cons, k_nx, k_rt, k_bk, k_ct, s_asg, s_asgF, s_asgT, k_asg, s_par, s_expr, s_iff, s_retN, s_raise, s_brk, s_cont, s_pass, s_frz, k_frzO, k_frzV, s_retV, k_retO, k_retV, s_ret_non, s_ret_bl, s_ret_int, s_ret_str, s_ret_con, s_ret_bin, s_ret_neg, s_ret_cmp, s_ret_chain, s_ret_and, s_ret_or, s_ret_not, s_ret_ite, s_ret_tup, s_ret_lst, s_ret_idx, s_ret_slc, s_ret_call, s_ret_callK, s_ret_op0, s_ret_op1, s_ret_callM, s_ret_blt, s_ret_isx, s_ret_isk, s_ret_comp, s_app, k_runR, k_runN, for_nil, k_forN, k_forC, k_forB, k_forR, g_nm, g_tp, o_some, noErr_ret, Yes, retK, ret_bind, err_bind, bad_bind, draw_bind, getV, slOf, slO, setAll, parT, List.length_cons, List.length_nil, List.map_cons, List.map_nil, List.getElem?_cons_zero, List.getElem?_cons_succ, List.set_cons_zero, List.set_cons_succ, List.cons_append, List.nil_append, List.replicate_succ, List.replicate_zero, decide_true]
theorem f14k {C W p q K x y : Int} (z1 : decide (0 < K) = true) (z2 : decide (K = 0) = false) (e93 : k 9 [.int (C - W), .int (K - 1)] = .ret (.int x)) (e94 : k 9 [.int C, .int (K - 1)] = .ret (.int y)) (m1 : binT .mul (.int x) (.int q) = .ret (.int (x * q))) (m2 : binT .mul (.int p) (.int y) = .ret (.int (p * y))) (n1 : decide (p * y < x * q) = true) : ex k WH t14_8 [.val (.int C), .val (.int W), .val (.tup [.int p, .int q]), .val .non, .val (.int K), .un] = .ret (.rt (.bl true)) := by
  have i1 := (ix2 (a := .int p) (b := .int q)).1
  have i2 := (ix2 (a := .int p) (b := .int q)).2
  unfold t14_8
  simp only [e_non, e_bl, e_int, e_str, e_var, e_con, e_bin, e_neg, e_cmp, e_chain, e_and, e_or, e_not, e_ite, e_tup, e_lst, e_idx, e_slc, e_call, e_callK, e_blt, e_isk, e_caught, e_isx, e_op0, e_op1, e_callM, b_op1, b_callM, i_callK, i_op1, o_emp, o_revT, b_var, b_cmp, b_chain, b_and, b_or, b_not, b_yes, b_call, b_callK, b_blt, b_isx, b_isk, a_nil, a_cons, r_nil, r_cons, o_nopart, o_part, i_rng1, i_rng2, i_zip, i_enum, i_cap, i_var, i_blt, i_call, i_tup, i_lst, i_idx, i_slc, q_add, q_sub, q_neg, q_lt, q_le, q_gt, q_ge, q_eqI, q_neI, q_isNN, q_isNT, q_isNI, q_isNL, q_isBB, q_isNB, q_isNS, q_isnNN, q_isnNT, q_isnNI, q_isnNL, q_andT, q_andF, q_orT, q_orF, q_not, q_toB, q_part, q_fzI, q_fzB, q_fzS, q_fzN, q_fzT, q_fzL, q_fzW, q_fzSt, q_fzSc, s_nil, s_cons, k_nx, k_rt, k_bk, k_ct, s_asg, s_asgF, s_asgT, k_asg, s_par, s_expr, s_iff, s_retN, s_raise, s_brk, s_cont, s_pass, s_frz, k_frzO, k_frzV, s_retV, k_retO, k_retV, s_ret_non, s_ret_bl, s_ret_int, s_ret_str, s_ret_con, s_ret_bin, s_ret_neg, s_ret_cmp, s_ret_chain, s_ret_and, s_ret_or, s_ret_not, s_ret_ite, s_ret_tup, s_ret_lst, s_ret_idx, s_ret_slc, s_ret_call, s_ret_callK, s_ret_op0, s_ret_op1, s_ret_callM, s_ret_blt, s_ret_isx, s_ret_isk, s_ret_comp, s_app, k_runR, k_runN, for_nil, k_forN, k_forC, k_forB, k_forR, g_nm, g_tp, o_some, noErr_ret, Yes, retK, ret_bind, err_bind, bad_bind, draw_bind, getV, slOf, slO, setAll, parT, List.length_cons, List.length_nil, List.map_cons, List.map_nil, List.getElem?_cons_zero, List.getElem?_cons_succ, List.set_cons_zero, List.set_cons_succ, List.cons_append, List.nil_append, List.replicate_succ, List.replicate_zero, z1, e93, i2, m1, if_true]
  unfold t14_9
  simp only [e_non, e_bl, e_int, e_str, e_var, e_con, e_bin, e_neg, e_cmp, e_chain, e_and, e_or, e_not, e_ite, e_tup, e_lst, e_idx, e_slc, e_call, e_callK, e_blt, e_isk, e_caught, e_isx, e_op0, e_op1, e_callM, b_op1, b_callM, i_callK, i_op1, o_emp, o_revT, b_var, b_cmp, b_chain, b_and, b_or, b_not, b_yes, b_call, b_callK, b_blt, b_isx, b_isk, a_nil, a_cons, r_nil, r_cons, o_nopart, o_part, i_rng1, i_rng2, i_zip, i_enum, i_cap, i_var, i_blt, i_call, i_tup, i_lst, i_idx, i_slc, q_add, q_sub, q_neg, q_lt, q_le, q_gt, q_ge, q_eqI, q_neI, q_isNN, q_isNT, q_isNI, q_isNL, q_isBB, q_isNB, q_isNS, q_isnNN, q_isnNT, q_isnNI, q_isnNL, q_andT, q_andF, q_orT, q_orF, q_not, q_toB, q_part, q_fzI, q_fzB, q_fzS, q_fzN, q_fzT, q_fzL, q_fzW, q_fzSt, q_fzSc, s_nil, s_cons, k_nx, k_rt, k_bk, k_ct, s_asg, s_asgF, s_asgT, k_asg, s_par, s_expr, s_iff, s_retN, s_raise, s_brk, s_cont, s_pass, s_frz, k_frzO, k_frzV, s_retV, k_retO, k_retV, s_ret_non, s_ret_bl, s_ret_int, s_ret_str, s_ret_con, s_ret_bin, s_ret_neg, s_ret_cmp, s_ret_chain, s_ret_and, s_ret_or, s_ret_not, s_ret_ite, s_ret_tup, s_ret_lst, s_ret_idx, s_ret_slc, s_ret_call, s_ret_callK, s_ret_op0, s_ret_op1, s_ret_callM, s_ret_blt, s_ret_isx, s_ret_isk, s_ret_comp, s_app, k_runR, k_runN, for_nil, k_forN, k_forC, k_forB, k_forR, g_nm, g_tp, o_some, noErr_ret, Yes, retK, ret_bind, err_bind, bad_bind, draw_bind, getV, slOf, slO, setAll, parT, List.length_cons, List.length_nil, List.map_cons, List.map_nil, List.getElem?_cons_zero, List.getElem?_cons_succ, List.set_cons_zero, List.set_cons_succ, List.cons_append, List.nil_append, List.replicate_succ, List.replicate_zero, z2, e94, i1, m2, n1]
theorem f14c {c w v : D} (hc : kd c = true) (hw : kd w = true) (hv : kd v = true)
    (e5 : ∀ e, leastE c w v = some e → k 5 [c, w, v] = .err e)
    (e5s : ∀ (C W p q : Int), c = .int C → w = .int W → v = .tup [.int p, .int q] → C ≤ 1000 → 1 ≤ W → W ≤ C → isC (.tup [.int p, .int q]) = true → ∃ K : Int, 0 ≤ K ∧ K ≤ C - W + 1 ∧ ¬ (p * chI C K < chI (C - W) K * q) ∧ (K = 0 ∨ (p * chI C (K - 1) < chI (C - W) (K - 1) * q)) ∧ k 5 [c, w, v] = .ret (.int K))
    (e8 : ∀ d (m : Int), kd d = true → k 8 [d, .int m] = .ret (.bl (inW m d)))
    (e9 : ∀ a b : Int, 0 ≤ a → a ≤ 1000 → 0 ≤ b → b ≤ 1001 → k 9 [.int a, .int b] = .ret (.int (chI a b)))
    (e13 : k 13 [v] = .ret (.bl (isC v))) : (ex k WH d14.body (startE d14.N [c, w, v]) >>= runK) = .ret (.bl true) := by
  have fz1 := kd_fz hc
  have fz2 := kd_fz hw
  have fz3 := kd_fz hv
  have e8c := e8 c 1001 hc
  by_cases h1 : inN 1 1000 c = true
  · have h1' := inN_W (m := 1001) h1
    obtain ⟨C, rfl, c1, c2⟩ := inN_int h1
    have C0 : C ≠ 0 := by omega
    have e8w := e8 w (C + 1) hw
    rw [body14, show startE d14.N [.int C, w, v] = [.val (.int C), .val w, .val v, .un, .un, .un] from rfl]
    by_cases h2 : inN 1 C w = true
    · have h2' := inN_W (m := C + 1) (by rw [Int.add_sub_cancel]; exact h2)
      obtain ⟨W, rfl, w1, w2⟩ := inN_int h2
      have W0 : W ≠ 0 := by omega
      by_cases h3 : isC v = true
      · obtain ⟨p, q, rfl⟩ : ∃ p q, v = .tup [.int p, .int q] := by
          unfold isC at h3
          split at h3
          · exact ⟨_, _, rfl⟩
          · cases h3
        obtain ⟨p0, q0, p1, q1, g1⟩ : 0 ≤ p ∧ 1 ≤ q ∧ p < 1000000000000000000 ∧ q < 1000000000000000000 ∧ gz p q = 1 := of_decide_eq_true h3
        obtain ⟨K, K0, K1, K2, K3, eK⟩ := e5s C W p q rfl rfl rfl (by omega) (by omega) (by omega) h3
        have e8k := e8 (.int K) (C - W + 2) rfl
        have hk : inW (C - W + 2) (.int K) = true := by
          show (decide (0 ≤ K) && decide (K < C - W + 2)) = true
          rw [decide_eq_true K0, decide_eq_true (show K < C - W + 2 by omega)]
          rfl
        rw [hk] at e8k
        rw [h3] at e13
        have e91 := e9 (C - W) K (by omega) (by omega) (by omega) (by omega)
        have e92 := e9 C K (by omega) (by omega) (by omega) (by omega)
        rw [f14g eK, f14B C0 h1' e8c, f14W W0 h2' e8w, f14h eK e13, f14i e8k e91 e92 (q_mulR (by omega) (by omega)) (q_mulL (by omega) (by omega)) (decide_eq_false K2)]
        by_cases k0 : K = 0
        · subst k0
          rw [f14z]
          rfl
        · have e93 := e9 (C - W) (K - 1) (by omega) (by omega) (by omega) (by omega)
          have e94 := e9 C (K - 1) (by omega) (by omega) (by omega) (by omega)
          have n2 : p * chI C (K - 1) < chI (C - W) (K - 1) * q := by
            rcases K3 with e | e
            · exact (k0 e).elim
            · exact e
          rw [f14k (decide_eq_true (by omega)) (decide_eq_false k0) e93 e94 (q_mulR (by omega) (by omega)) (q_mulL (by omega) (by omega)) (decide_eq_true n2)]
          rfl
      · have e5' := e5 1 (by rw [least_v h1 h2, if_neg h3])
        rw [Bool.not_eq_true] at h3
        rw [h3] at e13
        rw [f14e (by decide) fz2 fz3 e5', f14B C0 h1' e8c, f14W W0 h2' e8w, f14v fz3 e13]
        rfl
    · have e5' := e5 4 (least_w h1 h2)
      rw [Bool.not_eq_true] at h2
      rw [f14e (by decide) fz2 fz3 e5', f14B C0 h1' e8c, f14w fz2 h2 e8w]
      rfl
  · have e5' := e5 2 (least_c h1)
    rw [Bool.not_eq_true] at h1
    exact f14A fz1 fz2 fz3 h1 e5' e8c
end
theorem f14 {c w v : D} (hc : kd c = true) (hw : kd w = true) (hv : Ck v) : callF tab WH 10 14 [c, w, v] = .ret (.bl true) := by
  show runD (callF tab WH 9) WH d14 _ = _
  rw [run_eq rfl]
  refine f14c hc hw hv.kd (fun e he => f5e (n := 5) hc hw hv he) (fun C W p q ec ew ev c1 w1 w2 h => ?_) (fun d m hd => f8 (n := 7) hd) (fun a b a0 a1 b0 b1 => f9 (n := 8) a0 a1 b0 b1) (f13 hv)
  subst ec ew ev
  exact f5 (n := 5) c1 w1 w2 h
/-! the law's other half -/
def t15_8 : S := .cons (.ret (.cmp .eq (.var 4) (.call 10 (.cons (.call 9 (.cons (.bin .sub (.var 0) (.var 1)) (.cons (.var 2) .nil))) (.cons (.call 9 (.cons (.var 0) (.cons (.var 2) .nil))) .nil))))) .nil
def t15_7 : S := .cons (.iff (.cmp .lt (.var 0) (.int 8)) (.cons (.asgF 5 (.comp (.nm 7) (.call 11 (.cons (.var 0) (.cons (.var 2) .nil))) (.cmp .eq (.blt .len (.cons (.var 7) .nil)) (.var 2)) (.var 7) [("lot", 7)])) (.cons (.asgF 6 (.comp (.nm 7) (.var 5) (.cmp .eq (.comp (.nm 8) (.var 7) (.cmp .lt (.var 8) (.var 1)) (.int 1) [("claim", 8)]) (.lst .nil)) (.var 7) [("lot", 7)])) (.cons (.ret (.cmp .eq (.bin .mul (.idx (.var 4) (.int 0)) (.blt .len (.cons (.var 5) .nil))) (.bin .mul (.idx (.var 4) (.int 1)) (.blt .len (.cons (.var 6) .nil))))) .nil))) .nil) t15_8
def t15_6 : S := .cons (.iff (.not (.call 13 (.cons (.var 4) .nil))) (.cons (.ret (.bl false)) .nil) .nil) t15_7
def t15_5 : S := .cons (.asgF 4 (.call 4 (.cons (.var 0) (.cons (.var 1) (.cons (.var 2) .nil))))) t15_6
def t15_4 : S := .cons (.iff (.cmp .isn (.var 3) .non) (.cons (.ret (.bl false)) .nil) .nil) t15_5
def t15_3 : S := .cons (.iff (.not (.call 8 (.cons (.var 2) (.cons (.bin .add (.var 0) (.int 1)) .nil)))) (.cons (.ret (.isx 5 3 (.var 3))) .nil) .nil) t15_4
def t15_2 : S := .cons (.iff (.or (.not (.call 8 (.cons (.var 1) (.cons (.bin .add (.var 0) (.int 1)) .nil)))) (.cmp .eq (.var 1) (.int 0))) (.cons (.ret (.isx 5 4 (.var 3))) .nil) .nil) t15_3
def t15_1 : S := .cons (.iff (.or (.not (.call 8 (.cons (.var 0) (.cons (.int 61) .nil)))) (.cmp .eq (.var 0) (.int 0))) (.cons (.ret (.isx 5 2 (.var 3))) .nil) .nil) t15_2
def t15_0 : S := .cons (.asgF 3 (.caught 5 (.callK 4 [2, 1, 0] (.cons (.var 2) (.cons (.var 1) (.cons (.var 0) .nil)))))) t15_1
theorem body15 : d15.body = t15_0 := rfl
theorem gz_low {p q : Int} (hp : 0 ≤ p) (hq : 1 ≤ q) : gz (p / gz p q) (q / gz p q) = 1 := by
  obtain ⟨a, rfl⟩ := Int.eq_ofNat_of_zero_le hp
  obtain ⟨b, rfl⟩ := Int.eq_ofNat_of_zero_le (show 0 ≤ q by omega)
  unfold gz
  simp only [Int.natAbs_natCast]
  rw [← Int.natCast_ediv, ← Int.natCast_ediv]
  simp only [Int.natAbs_natCast]
  rw [Nat.gcd_div (Nat.gcd_dvd_left _ _) (Nat.gcd_dvd_right _ _), Nat.div_self (Nat.gcd_pos_of_pos_right _ (by omega))]
  rfl
theorem isC_low {p q : Int} (hp : 0 ≤ p) (hp2 : p < 1000000000000000000) (hq : 1 ≤ q) (hq2 : q < 1000000000000000000) : isC (lowD p q) = true := by
  have h := low_pos hp hq
  have h2 : p / gz p q ≤ p := Int.ediv_le_self _ hp
  have h3 : q / gz p q ≤ q := Int.ediv_le_self _ (by omega)
  exact decide_eq_true ⟨h.1, h.2, by omega, by omega, gz_low hp hq⟩
theorem eq_low {p q : Int} : cmpT .eq (lowD p q) (lowD p q) = .ret true := by
  show deq _ _ = _
  unfold lowD
  rw [deq_t2]
  simp
theorem inN_W0 {m : Int} {d : D} : inN 0 m d = inW (m + 1) d := by
  cases d with
  | int i =>
    show (decide (0 ≤ i) && decide (i ≤ m)) = (decide (0 ≤ i) && decide (i < m + 1))
    rw [decide_eq_decide.mpr (show i ≤ m ↔ i < m + 1 by omega)]
  | _ => rfl
theorem chI_n60 {c w s : Int} (c1 : 1 ≤ c) (c2 : c ≤ 60) (w1 : 1 ≤ w) : chI (c - w) s < 1000000000000000000 := by
  by_cases h : 1 ≤ c - w
  · exact chI_60 h (by omega)
  · unfold chI
    rw [show (c - w).toNat = 0 by omega]
    cases s.toNat with
    | zero => decide
    | succ k => show ((0 : Nat) : Int) < _; decide
theorem miss_ok {C W S : Int} (h1 : inN 1 60 (.int C) = true) (h2 : inN 1 C (.int W) = true) (h3 : inN 0 C (.int S) = true) : missT (.int C) (.int W) (.int S) = .ret (lowD (chI (C - W) S) (chI C S)) := by
  unfold missT
  rw [if_pos h1]
  exact (if_pos h2).trans (if_pos h3)
theorem miss_s {C W : Int} {s : D} (h1 : inN 1 60 (.int C) = true) (h2 : inN 1 C (.int W) = true) (h3 : inN 0 C s = false) : missT (.int C) (.int W) s = .err 3 := by
  unfold missT
  rw [if_pos h1]
  exact (if_pos h2).trans (if_neg (by rw [Bool.not_eq_true]; exact h3))
theorem miss_w {C : Int} {w s : D} (h1 : inN 1 60 (.int C) = true) (h2 : inN 1 C w = false) : missT (.int C) w s = .err 4 := by
  unfold missT
  rw [if_pos h1]
  exact if_neg (by rw [Bool.not_eq_true]; exact h2)
theorem miss_c {c w s : D} (h1 : inN 1 60 c = false) : missT c w s = .err 2 := if_neg (by rw [Bool.not_eq_true]; exact h1)
section
variable {k : Nat → List D → T D}
def r15 (c w s e : D) : PV.Env := [.val c, .val w, .val s, .val e, .un, .un, .un, .un, .un]
theorem f15A {c w s : D} (fz1 : fz c = .ret c) (fz2 : fz w = .ret w) (fz3 : fz s = .ret s) (h1 : inN 1 60 c = false) (e4 : k 4 [c, w, s] = .err 2) (e8c : k 8 [c, .int 61] = .ret (.bl (inW 61 c))) : ex k WH t15_0 [.val c, .val w, .val s, .un, .un, .un, .un, .un, .un] = .ret (.rt (.bl true)) := by
  unfold t15_0
  simp only [e_non, e_bl, e_int, e_str, e_var, e_con, e_bin, e_neg, e_cmp, e_chain, e_and, e_or, e_not, e_ite, e_tup, e_lst, e_idx, e_slc, e_call, e_callK, e_blt, e_isk, e_caught, e_isx, e_op0, e_op1, e_callM, b_op1, b_callM, i_callK, i_op1, o_emp, o_revT, b_var, b_cmp, b_chain, b_and, b_or, b_not, b_yes, b_call, b_callK, b_blt, b_isx, b_isk, a_nil, a_cons, r_nil, r_cons, o_nopart, o_part, i_rng1, i_rng2, i_zip, i_enum, i_cap, i_var, i_blt, i_call, i_tup, i_lst, i_idx, i_slc, q_add, q_sub, q_neg, q_lt, q_le, q_gt, q_ge, q_eqI, q_neI, q_isNN, q_isNT, q_isNI, q_isNL, q_isBB, q_isNB, q_isNS, q_isnNN, q_isnNT, q_isnNI, q_isnNL, q_andT, q_andF, q_orT, q_orF, q_not, q_toB, q_part, q_fzI, q_fzB, q_fzS, q_fzN, q_fzT, q_fzL, q_fzW, q_fzSt, q_fzSc, s_nil, s_cons, k_nx, k_rt, k_bk, k_ct, s_asg, s_asgF, s_asgT, k_asg, s_par, s_expr, s_iff, s_retN, s_raise, s_brk, s_cont, s_pass, s_frz, k_frzO, k_frzV, s_retV, k_retO, k_retV, s_ret_non, s_ret_bl, s_ret_int, s_ret_str, s_ret_con, s_ret_bin, s_ret_neg, s_ret_cmp, s_ret_chain, s_ret_and, s_ret_or, s_ret_not, s_ret_ite, s_ret_tup, s_ret_lst, s_ret_idx, s_ret_slc, s_ret_call, s_ret_callK, s_ret_op0, s_ret_op1, s_ret_callM, s_ret_blt, s_ret_isx, s_ret_isk, s_ret_comp, s_app, k_runR, k_runN, for_nil, k_forN, k_forC, k_forB, k_forR, g_nm, g_tp, o_some, noErr_ret, Yes, retK, ret_bind, err_bind, bad_bind, draw_bind, getV, slOf, slO, setAll, parT, List.length_cons, List.length_nil, List.map_cons, List.map_nil, List.getElem?_cons_zero, List.getElem?_cons_succ, List.set_cons_zero, List.set_cons_succ, List.cons_append, List.nil_append, List.replicate_succ, List.replicate_zero, fz1, fz2, fz3, pm210, e4, x_ct (show 2 < 5 by decide), fz_exc]
  unfold t15_1
  by_cases a : inW 61 c = true
  · have := inW_sub a h1
    subst this
    simp only [e_non, e_bl, e_int, e_str, e_var, e_con, e_bin, e_neg, e_cmp, e_chain, e_and, e_or, e_not, e_ite, e_tup, e_lst, e_idx, e_slc, e_call, e_callK, e_blt, e_isk, e_caught, e_isx, e_op0, e_op1, e_callM, b_op1, b_callM, i_callK, i_op1, o_emp, o_revT, b_var, b_cmp, b_chain, b_and, b_or, b_not, b_yes, b_call, b_callK, b_blt, b_isx, b_isk, a_nil, a_cons, r_nil, r_cons, o_nopart, o_part, i_rng1, i_rng2, i_zip, i_enum, i_cap, i_var, i_blt, i_call, i_tup, i_lst, i_idx, i_slc, q_add, q_sub, q_neg, q_lt, q_le, q_gt, q_ge, q_eqI, q_neI, q_isNN, q_isNT, q_isNI, q_isNL, q_isBB, q_isNB, q_isNS, q_isnNN, q_isnNT, q_isnNI, q_isnNL, q_andT, q_andF, q_orT, q_orF, q_not, q_toB, q_part, q_fzI, q_fzB, q_fzS, q_fzN, q_fzT, q_fzL, q_fzW, q_fzSt, q_fzSc, s_nil, s_cons, k_nx, k_rt, k_bk, k_ct, s_asg, s_asgF, s_asgT, k_asg, s_par, s_expr, s_iff, s_retN, s_raise, s_brk, s_cont, s_pass, s_frz, k_frzO, k_frzV, s_retV, k_retO, k_retV, s_ret_non, s_ret_bl, s_ret_int, s_ret_str, s_ret_con, s_ret_bin, s_ret_neg, s_ret_cmp, s_ret_chain, s_ret_and, s_ret_or, s_ret_not, s_ret_ite, s_ret_tup, s_ret_lst, s_ret_idx, s_ret_slc, s_ret_call, s_ret_callK, s_ret_op0, s_ret_op1, s_ret_callM, s_ret_blt, s_ret_isx, s_ret_isk, s_ret_comp, s_app, k_runR, k_runN, for_nil, k_forN, k_forC, k_forB, k_forR, g_nm, g_tp, o_some, noErr_ret, Yes, retK, ret_bind, err_bind, bad_bind, draw_bind, getV, slOf, slO, setAll, parT, List.length_cons, List.length_nil, List.map_cons, List.map_nil, List.getElem?_cons_zero, List.getElem?_cons_succ, List.set_cons_zero, List.set_cons_succ, List.cons_append, List.nil_append, List.replicate_succ, List.replicate_zero, e8c, a, eq00, decide_true, Bool.not_true, Bool.false_eq_true, if_false, if_true, x_is (show 2 < 5 by decide)]
  · rw [Bool.not_eq_true] at a
    simp only [e_non, e_bl, e_int, e_str, e_var, e_con, e_bin, e_neg, e_cmp, e_chain, e_and, e_or, e_not, e_ite, e_tup, e_lst, e_idx, e_slc, e_call, e_callK, e_blt, e_isk, e_caught, e_isx, e_op0, e_op1, e_callM, b_op1, b_callM, i_callK, i_op1, o_emp, o_revT, b_var, b_cmp, b_chain, b_and, b_or, b_not, b_yes, b_call, b_callK, b_blt, b_isx, b_isk, a_nil, a_cons, r_nil, r_cons, o_nopart, o_part, i_rng1, i_rng2, i_zip, i_enum, i_cap, i_var, i_blt, i_call, i_tup, i_lst, i_idx, i_slc, q_add, q_sub, q_neg, q_lt, q_le, q_gt, q_ge, q_eqI, q_neI, q_isNN, q_isNT, q_isNI, q_isNL, q_isBB, q_isNB, q_isNS, q_isnNN, q_isnNT, q_isnNI, q_isnNL, q_andT, q_andF, q_orT, q_orF, q_not, q_toB, q_part, q_fzI, q_fzB, q_fzS, q_fzN, q_fzT, q_fzL, q_fzW, q_fzSt, q_fzSc, s_nil, s_cons, k_nx, k_rt, k_bk, k_ct, s_asg, s_asgF, s_asgT, k_asg, s_par, s_expr, s_iff, s_retN, s_raise, s_brk, s_cont, s_pass, s_frz, k_frzO, k_frzV, s_retV, k_retO, k_retV, s_ret_non, s_ret_bl, s_ret_int, s_ret_str, s_ret_con, s_ret_bin, s_ret_neg, s_ret_cmp, s_ret_chain, s_ret_and, s_ret_or, s_ret_not, s_ret_ite, s_ret_tup, s_ret_lst, s_ret_idx, s_ret_slc, s_ret_call, s_ret_callK, s_ret_op0, s_ret_op1, s_ret_callM, s_ret_blt, s_ret_isx, s_ret_isk, s_ret_comp, s_app, k_runR, k_runN, for_nil, k_forN, k_forC, k_forB, k_forR, g_nm, g_tp, o_some, noErr_ret, Yes, retK, ret_bind, err_bind, bad_bind, draw_bind, getV, slOf, slO, setAll, parT, List.length_cons, List.length_nil, List.map_cons, List.map_nil, List.getElem?_cons_zero, List.getElem?_cons_succ, List.set_cons_zero, List.set_cons_succ, List.cons_append, List.nil_append, List.replicate_succ, List.replicate_zero, fz1, e8c, a, Bool.not_false, if_true, x_is (show 2 < 5 by decide), decide_true]
theorem f15B {C : Int} {w v e : D} (C0 : C ≠ 0) (h1 : inW 61 (.int C) = true) (e8c : k 8 [.int C, .int 61] = .ret (.bl (inW 61 (.int C)))) : ex k WH t15_1 (r15 (.int C) w v e) = ex k WH t15_2 (r15 (.int C) w v e) := by
  have cz : decide (C = 0) = false := decide_eq_false C0
  unfold t15_1 r15
  simp only [e_non, e_bl, e_int, e_str, e_var, e_con, e_bin, e_neg, e_cmp, e_chain, e_and, e_or, e_not, e_ite, e_tup, e_lst, e_idx, e_slc, e_call, e_callK, e_blt, e_isk, e_caught, e_isx, e_op0, e_op1, e_callM, b_op1, b_callM, i_callK, i_op1, o_emp, o_revT, b_var, b_cmp, b_chain, b_and, b_or, b_not, b_yes, b_call, b_callK, b_blt, b_isx, b_isk, a_nil, a_cons, r_nil, r_cons, o_nopart, o_part, i_rng1, i_rng2, i_zip, i_enum, i_cap, i_var, i_blt, i_call, i_tup, i_lst, i_idx, i_slc, q_add, q_sub, q_neg, q_lt, q_le, q_gt, q_ge, q_eqI, q_neI, q_isNN, q_isNT, q_isNI, q_isNL, q_isBB, q_isNB, q_isNS, q_isnNN, q_isnNT, q_isnNI, q_isnNL, q_andT, q_andF, q_orT, q_orF, q_not, q_toB, q_part, q_fzI, q_fzB, q_fzS, q_fzN, q_fzT, q_fzL, q_fzW, q_fzSt, q_fzSc, s_nil, s_cons, k_nx, k_rt, k_bk, k_ct, s_asg, s_asgF, s_asgT, k_asg, s_par, s_expr, s_iff, s_retN, s_raise, s_brk, s_cont, s_pass, s_frz, k_frzO, k_frzV, s_retV, k_retO, k_retV, s_ret_non, s_ret_bl, s_ret_int, s_ret_str, s_ret_con, s_ret_bin, s_ret_neg, s_ret_cmp, s_ret_chain, s_ret_and, s_ret_or, s_ret_not, s_ret_ite, s_ret_tup, s_ret_lst, s_ret_idx, s_ret_slc, s_ret_call, s_ret_callK, s_ret_op0, s_ret_op1, s_ret_callM, s_ret_blt, s_ret_isx, s_ret_isk, s_ret_comp, s_app, k_runR, k_runN, for_nil, k_forN, k_forC, k_forB, k_forR, g_nm, g_tp, o_some, noErr_ret, Yes, retK, ret_bind, err_bind, bad_bind, draw_bind, getV, slOf, slO, setAll, parT, List.length_cons, List.length_nil, List.map_cons, List.map_nil, List.getElem?_cons_zero, List.getElem?_cons_succ, List.set_cons_zero, List.set_cons_succ, List.cons_append, List.nil_append, List.replicate_succ, List.replicate_zero, e8c, h1, cz, Bool.not_true, Bool.false_eq_true, if_false]
theorem f15W {C W : Int} {v e : D} (W0 : W ≠ 0) (h2 : inW (C + 1) (.int W) = true) (e8w : k 8 [.int W, .int (C + 1)] = .ret (.bl (inW (C + 1) (.int W)))) : ex k WH t15_2 (r15 (.int C) (.int W) v e) = ex k WH t15_3 (r15 (.int C) (.int W) v e) := by
  have wz : decide (W = 0) = false := decide_eq_false W0
  unfold t15_2 r15
  simp only [e_non, e_bl, e_int, e_str, e_var, e_con, e_bin, e_neg, e_cmp, e_chain, e_and, e_or, e_not, e_ite, e_tup, e_lst, e_idx, e_slc, e_call, e_callK, e_blt, e_isk, e_caught, e_isx, e_op0, e_op1, e_callM, b_op1, b_callM, i_callK, i_op1, o_emp, o_revT, b_var, b_cmp, b_chain, b_and, b_or, b_not, b_yes, b_call, b_callK, b_blt, b_isx, b_isk, a_nil, a_cons, r_nil, r_cons, o_nopart, o_part, i_rng1, i_rng2, i_zip, i_enum, i_cap, i_var, i_blt, i_call, i_tup, i_lst, i_idx, i_slc, q_add, q_sub, q_neg, q_lt, q_le, q_gt, q_ge, q_eqI, q_neI, q_isNN, q_isNT, q_isNI, q_isNL, q_isBB, q_isNB, q_isNS, q_isnNN, q_isnNT, q_isnNI, q_isnNL, q_andT, q_andF, q_orT, q_orF, q_not, q_toB, q_part, q_fzI, q_fzB, q_fzS, q_fzN, q_fzT, q_fzL, q_fzW, q_fzSt, q_fzSc, s_nil, s_cons, k_nx, k_rt, k_bk, k_ct, s_asg, s_asgF, s_asgT, k_asg, s_par, s_expr, s_iff, s_retN, s_raise, s_brk, s_cont, s_pass, s_frz, k_frzO, k_frzV, s_retV, k_retO, k_retV, s_ret_non, s_ret_bl, s_ret_int, s_ret_str, s_ret_con, s_ret_bin, s_ret_neg, s_ret_cmp, s_ret_chain, s_ret_and, s_ret_or, s_ret_not, s_ret_ite, s_ret_tup, s_ret_lst, s_ret_idx, s_ret_slc, s_ret_call, s_ret_callK, s_ret_op0, s_ret_op1, s_ret_callM, s_ret_blt, s_ret_isx, s_ret_isk, s_ret_comp, s_app, k_runR, k_runN, for_nil, k_forN, k_forC, k_forB, k_forR, g_nm, g_tp, o_some, noErr_ret, Yes, retK, ret_bind, err_bind, bad_bind, draw_bind, getV, slOf, slO, setAll, parT, List.length_cons, List.length_nil, List.map_cons, List.map_nil, List.getElem?_cons_zero, List.getElem?_cons_succ, List.set_cons_zero, List.set_cons_succ, List.cons_append, List.nil_append, List.replicate_succ, List.replicate_zero, e8w, h2, wz, Bool.not_true, Bool.false_eq_true, if_false]
theorem f15w {C : Int} {w v : D} (fz2 : fz w = .ret w) (h2 : inN 1 C w = false) (e8w : k 8 [w, .int (C + 1)] = .ret (.bl (inW (C + 1) w))) : ex k WH t15_2 (r15 (.int C) w v (.exc 4)) = .ret (.rt (.bl true)) := by
  unfold t15_2 r15
  by_cases a : inW (C + 1) w = true
  · have := inW_sub a (by rw [Int.add_sub_cancel]; exact h2)
    subst this
    simp only [e_non, e_bl, e_int, e_str, e_var, e_con, e_bin, e_neg, e_cmp, e_chain, e_and, e_or, e_not, e_ite, e_tup, e_lst, e_idx, e_slc, e_call, e_callK, e_blt, e_isk, e_caught, e_isx, e_op0, e_op1, e_callM, b_op1, b_callM, i_callK, i_op1, o_emp, o_revT, b_var, b_cmp, b_chain, b_and, b_or, b_not, b_yes, b_call, b_callK, b_blt, b_isx, b_isk, a_nil, a_cons, r_nil, r_cons, o_nopart, o_part, i_rng1, i_rng2, i_zip, i_enum, i_cap, i_var, i_blt, i_call, i_tup, i_lst, i_idx, i_slc, q_add, q_sub, q_neg, q_lt, q_le, q_gt, q_ge, q_eqI, q_neI, q_isNN, q_isNT, q_isNI, q_isNL, q_isBB, q_isNB, q_isNS, q_isnNN, q_isnNT, q_isnNI, q_isnNL, q_andT, q_andF, q_orT, q_orF, q_not, q_toB, q_part, q_fzI, q_fzB, q_fzS, q_fzN, q_fzT, q_fzL, q_fzW, q_fzSt, q_fzSc, s_nil, s_cons, k_nx, k_rt, k_bk, k_ct, s_asg, s_asgF, s_asgT, k_asg, s_par, s_expr, s_iff, s_retN, s_raise, s_brk, s_cont, s_pass, s_frz, k_frzO, k_frzV, s_retV, k_retO, k_retV, s_ret_non, s_ret_bl, s_ret_int, s_ret_str, s_ret_con, s_ret_bin, s_ret_neg, s_ret_cmp, s_ret_chain, s_ret_and, s_ret_or, s_ret_not, s_ret_ite, s_ret_tup, s_ret_lst, s_ret_idx, s_ret_slc, s_ret_call, s_ret_callK, s_ret_op0, s_ret_op1, s_ret_callM, s_ret_blt, s_ret_isx, s_ret_isk, s_ret_comp, s_app, k_runR, k_runN, for_nil, k_forN, k_forC, k_forB, k_forR, g_nm, g_tp, o_some, noErr_ret, Yes, retK, ret_bind, err_bind, bad_bind, draw_bind, getV, slOf, slO, setAll, parT, List.length_cons, List.length_nil, List.map_cons, List.map_nil, List.getElem?_cons_zero, List.getElem?_cons_succ, List.set_cons_zero, List.set_cons_succ, List.cons_append, List.nil_append, List.replicate_succ, List.replicate_zero, e8w, a, eq00, decide_true, Bool.not_true, Bool.false_eq_true, if_false, if_true, x_is (show 4 < 5 by decide)]
  · rw [Bool.not_eq_true] at a
    simp only [e_non, e_bl, e_int, e_str, e_var, e_con, e_bin, e_neg, e_cmp, e_chain, e_and, e_or, e_not, e_ite, e_tup, e_lst, e_idx, e_slc, e_call, e_callK, e_blt, e_isk, e_caught, e_isx, e_op0, e_op1, e_callM, b_op1, b_callM, i_callK, i_op1, o_emp, o_revT, b_var, b_cmp, b_chain, b_and, b_or, b_not, b_yes, b_call, b_callK, b_blt, b_isx, b_isk, a_nil, a_cons, r_nil, r_cons, o_nopart, o_part, i_rng1, i_rng2, i_zip, i_enum, i_cap, i_var, i_blt, i_call, i_tup, i_lst, i_idx, i_slc, q_add, q_sub, q_neg, q_lt, q_le, q_gt, q_ge, q_eqI, q_neI, q_isNN, q_isNT, q_isNI, q_isNL, q_isBB, q_isNB, q_isNS, q_isnNN, q_isnNT, q_isnNI, q_isnNL, q_andT, q_andF, q_orT, q_orF, q_not, q_toB, q_part, q_fzI, q_fzB, q_fzS, q_fzN, q_fzT, q_fzL, q_fzW, q_fzSt, q_fzSc, s_nil, s_cons, k_nx, k_rt, k_bk, k_ct, s_asg, s_asgF, s_asgT, k_asg, s_par, s_expr, s_iff, s_retN, s_raise, s_brk, s_cont, s_pass, s_frz, k_frzO, k_frzV, s_retV, k_retO, k_retV, s_ret_non, s_ret_bl, s_ret_int, s_ret_str, s_ret_con, s_ret_bin, s_ret_neg, s_ret_cmp, s_ret_chain, s_ret_and, s_ret_or, s_ret_not, s_ret_ite, s_ret_tup, s_ret_lst, s_ret_idx, s_ret_slc, s_ret_call, s_ret_callK, s_ret_op0, s_ret_op1, s_ret_callM, s_ret_blt, s_ret_isx, s_ret_isk, s_ret_comp, s_app, k_runR, k_runN, for_nil, k_forN, k_forC, k_forB, k_forR, g_nm, g_tp, o_some, noErr_ret, Yes, retK, ret_bind, err_bind, bad_bind, draw_bind, getV, slOf, slO, setAll, parT, List.length_cons, List.length_nil, List.map_cons, List.map_nil, List.getElem?_cons_zero, List.getElem?_cons_succ, List.set_cons_zero, List.set_cons_succ, List.cons_append, List.nil_append, List.replicate_succ, List.replicate_zero, fz2, e8w, a, Bool.not_false, if_true, x_is (show 4 < 5 by decide), decide_true]
theorem f15s {C W : Int} {s : D} (fz3 : fz s = .ret s) (e8s : k 8 [s, .int (C + 1)] = .ret (.bl false)) : ex k WH t15_3 (r15 (.int C) (.int W) s (.exc 3)) = .ret (.rt (.bl true)) := by
  unfold t15_3 r15
  simp only [e_non, e_bl, e_int, e_str, e_var, e_con, e_bin, e_neg, e_cmp, e_chain, e_and, e_or, e_not, e_ite, e_tup, e_lst, e_idx, e_slc, e_call, e_callK, e_blt, e_isk, e_caught, e_isx, e_op0, e_op1, e_callM, b_op1, b_callM, i_callK, i_op1, o_emp, o_revT, b_var, b_cmp, b_chain, b_and, b_or, b_not, b_yes, b_call, b_callK, b_blt, b_isx, b_isk, a_nil, a_cons, r_nil, r_cons, o_nopart, o_part, i_rng1, i_rng2, i_zip, i_enum, i_cap, i_var, i_blt, i_call, i_tup, i_lst, i_idx, i_slc, q_add, q_sub, q_neg, q_lt, q_le, q_gt, q_ge, q_eqI, q_neI, q_isNN, q_isNT, q_isNI, q_isNL, q_isBB, q_isNB, q_isNS, q_isnNN, q_isnNT, q_isnNI, q_isnNL, q_andT, q_andF, q_orT, q_orF, q_not, q_toB, q_part, q_fzI, q_fzB, q_fzS, q_fzN, q_fzT, q_fzL, q_fzW, q_fzSt, q_fzSc, s_nil, s_cons, k_nx, k_rt, k_bk, k_ct, s_asg, s_asgF, s_asgT, k_asg, s_par, s_expr, s_iff, s_retN, s_raise, s_brk, s_cont, s_pass, s_frz, k_frzO, k_frzV, s_retV, k_retO, k_retV, s_ret_non, s_ret_bl, s_ret_int, s_ret_str, s_ret_con, s_ret_bin, s_ret_neg, s_ret_cmp, s_ret_chain, s_ret_and, s_ret_or, s_ret_not, s_ret_ite, s_ret_tup, s_ret_lst, s_ret_idx, s_ret_slc, s_ret_call, s_ret_callK, s_ret_op0, s_ret_op1, s_ret_callM, s_ret_blt, s_ret_isx, s_ret_isk, s_ret_comp, s_app, k_runR, k_runN, for_nil, k_forN, k_forC, k_forB, k_forR, g_nm, g_tp, o_some, noErr_ret, Yes, retK, ret_bind, err_bind, bad_bind, draw_bind, getV, slOf, slO, setAll, parT, List.length_cons, List.length_nil, List.map_cons, List.map_nil, List.getElem?_cons_zero, List.getElem?_cons_succ, List.set_cons_zero, List.set_cons_succ, List.cons_append, List.nil_append, List.replicate_succ, List.replicate_zero, fz3, e8s, Bool.not_false, if_true, x_is (show 3 < 5 by decide), decide_true]
theorem f15e {C : Int} {w v : D} {e : Nat} (he : e < 5) (fz2 : fz w = .ret w) (fz3 : fz v = .ret v) (e4 : k 4 [.int C, w, v] = .err e) : ex k WH t15_0 [.val (.int C), .val w, .val v, .un, .un, .un, .un, .un, .un] = ex k WH t15_1 (r15 (.int C) w v (.exc e)) := by
  unfold t15_0 r15
  simp only [e_non, e_bl, e_int, e_str, e_var, e_con, e_bin, e_neg, e_cmp, e_chain, e_and, e_or, e_not, e_ite, e_tup, e_lst, e_idx, e_slc, e_call, e_callK, e_blt, e_isk, e_caught, e_isx, e_op0, e_op1, e_callM, b_op1, b_callM, i_callK, i_op1, o_emp, o_revT, b_var, b_cmp, b_chain, b_and, b_or, b_not, b_yes, b_call, b_callK, b_blt, b_isx, b_isk, a_nil, a_cons, r_nil, r_cons, o_nopart, o_part, i_rng1, i_rng2, i_zip, i_enum, i_cap, i_var, i_blt, i_call, i_tup, i_lst, i_idx, i_slc, q_add, q_sub, q_neg, q_lt, q_le, q_gt, q_ge, q_eqI, q_neI, q_isNN, q_isNT, q_isNI, q_isNL, q_isBB, q_isNB, q_isNS, q_isnNN, q_isnNT, q_isnNI, q_isnNL, q_andT, q_andF, q_orT, q_orF, q_not, q_toB, q_part, q_fzI, q_fzB, q_fzS, q_fzN, q_fzT, q_fzL, q_fzW, q_fzSt, q_fzSc, s_nil, s_cons, k_nx, k_rt, k_bk, k_ct, s_asg, s_asgF, s_asgT, k_asg, s_par, s_expr, s_iff, s_retN, s_raise, s_brk, s_cont, s_pass, s_frz, k_frzO, k_frzV, s_retV, k_retO, k_retV, s_ret_non, s_ret_bl, s_ret_int, s_ret_str, s_ret_con, s_ret_bin, s_ret_neg, s_ret_cmp, s_ret_chain, s_ret_and, s_ret_or, s_ret_not, s_ret_ite, s_ret_tup, s_ret_lst, s_ret_idx, s_ret_slc, s_ret_call, s_ret_callK, s_ret_op0, s_ret_op1, s_ret_callM, s_ret_blt, s_ret_isx, s_ret_isk, s_ret_comp, s_app, k_runR, k_runN, for_nil, k_forN, k_forC, k_forB, k_forR, g_nm, g_tp, o_some, noErr_ret, Yes, retK, ret_bind, err_bind, bad_bind, draw_bind, getV, slOf, slO, setAll, parT, List.length_cons, List.length_nil, List.map_cons, List.map_nil, List.getElem?_cons_zero, List.getElem?_cons_succ, List.set_cons_zero, List.set_cons_succ, List.cons_append, List.nil_append, List.replicate_succ, List.replicate_zero, fz2, fz3, pm210, e4, x_ct he, fz_exc]
theorem f15g {C W S a b : Int} (e4 : k 4 [.int C, .int W, .int S] = .ret (.tup [.int a, .int b])) : ex k WH t15_0 [.val (.int C), .val (.int W), .val (.int S), .un, .un, .un, .un, .un, .un] = ex k WH t15_1 (r15 (.int C) (.int W) (.int S) .non) := by
  unfold t15_0 r15
  simp only [e_non, e_bl, e_int, e_str, e_var, e_con, e_bin, e_neg, e_cmp, e_chain, e_and, e_or, e_not, e_ite, e_tup, e_lst, e_idx, e_slc, e_call, e_callK, e_blt, e_isk, e_caught, e_isx, e_op0, e_op1, e_callM, b_op1, b_callM, i_callK, i_op1, o_emp, o_revT, b_var, b_cmp, b_chain, b_and, b_or, b_not, b_yes, b_call, b_callK, b_blt, b_isx, b_isk, a_nil, a_cons, r_nil, r_cons, o_nopart, o_part, i_rng1, i_rng2, i_zip, i_enum, i_cap, i_var, i_blt, i_call, i_tup, i_lst, i_idx, i_slc, q_add, q_sub, q_neg, q_lt, q_le, q_gt, q_ge, q_eqI, q_neI, q_isNN, q_isNT, q_isNI, q_isNL, q_isBB, q_isNB, q_isNS, q_isnNN, q_isnNT, q_isnNI, q_isnNL, q_andT, q_andF, q_orT, q_orF, q_not, q_toB, q_part, q_fzI, q_fzB, q_fzS, q_fzN, q_fzT, q_fzL, q_fzW, q_fzSt, q_fzSc, s_nil, s_cons, k_nx, k_rt, k_bk, k_ct, s_asg, s_asgF, s_asgT, k_asg, s_par, s_expr, s_iff, s_retN, s_raise, s_brk, s_cont, s_pass, s_frz, k_frzO, k_frzV, s_retV, k_retO, k_retV, s_ret_non, s_ret_bl, s_ret_int, s_ret_str, s_ret_con, s_ret_bin, s_ret_neg, s_ret_cmp, s_ret_chain, s_ret_and, s_ret_or, s_ret_not, s_ret_ite, s_ret_tup, s_ret_lst, s_ret_idx, s_ret_slc, s_ret_call, s_ret_callK, s_ret_op0, s_ret_op1, s_ret_callM, s_ret_blt, s_ret_isx, s_ret_isk, s_ret_comp, s_app, k_runR, k_runN, for_nil, k_forN, k_forC, k_forB, k_forR, g_nm, g_tp, o_some, noErr_ret, Yes, retK, ret_bind, err_bind, bad_bind, draw_bind, getV, slOf, slO, setAll, parT, List.length_cons, List.length_nil, List.map_cons, List.map_nil, List.getElem?_cons_zero, List.getElem?_cons_succ, List.set_cons_zero, List.set_cons_succ, List.cons_append, List.nil_append, List.replicate_succ, List.replicate_zero, pm210, e4, x_cr]
theorem f15h {C W S a b x y : Int} (e8s : k 8 [.int S, .int (C + 1)] = .ret (.bl true)) (e4 : k 4 [.int C, .int W, .int S] = .ret (.tup [.int a, .int b])) (e13 : k 13 [.tup [.int a, .int b]] = .ret (.bl true)) (h8 : decide (C < 8) = false) (e91 : k 9 [.int (C - W), .int S] = .ret (.int x)) (e92 : k 9 [.int C, .int S] = .ret (.int y)) (e10 : k 10 [.int x, .int y] = .ret (.tup [.int a, .int b])) : ex k WH t15_3 (r15 (.int C) (.int W) (.int S) .non) = .ret (.rt (.bl true)) := by
  have eq1 : cmpT .eq (.tup [.int a, .int b]) (.tup [.int a, .int b]) = .ret true := by
    show deq _ _ = _
    rw [deq_t2]
    simp
  unfold t15_3 r15
  simp only [e_non, e_bl, e_int, e_str, e_var, e_con, e_bin, e_neg, e_cmp, e_chain, e_and, e_or, e_not, e_ite, e_tup, e_lst, e_idx, e_slc, e_call, e_callK, e_blt, e_isk, e_caught, e_isx, e_op0, e_op1, e_callM, b_op1, b_callM, i_callK, i_op1, o_emp, o_revT, b_var, b_cmp, b_chain, b_and, b_or, b_not, b_yes, b_call, b_callK, b_blt, b_isx, b_isk, a_nil, a_cons, r_nil, r_cons, o_nopart, o_part, i_rng1, i_rng2, i_zip, i_enum, i_cap, i_var, i_blt, i_call, i_tup, i_lst, i_idx, i_slc, q_add, q_sub, q_neg, q_lt, q_le, q_gt, q_ge, q_eqI, q_neI, q_isNN, q_isNT, q_isNI, q_isNL, q_isBB, q_isNB, q_isNS, q_isnNN, q_isnNT, q_isnNI, q_isnNL, q_andT, q_andF, q_orT, q_orF, q_not, q_toB, q_part, q_fzI, q_fzB, q_fzS, q_fzN, q_fzT, q_fzL, q_fzW, q_fzSt, q_fzSc, s_nil, s_cons, k_nx, k_rt, k_bk, k_ct, s_asg, s_asgF, s_asgT, k_asg, s_par, s_expr, s_iff, s_retN, s_raise, s_brk, s_cont, s_pass, s_frz, k_frzO, k_frzV, s_retV, k_retO, k_retV, s_ret_non, s_ret_bl, s_ret_int, s_ret_str, s_ret_con, s_ret_bin, s_ret_neg, s_ret_cmp, s_ret_chain, s_ret_and, s_ret_or, s_ret_not, s_ret_ite, s_ret_tup, s_ret_lst, s_ret_idx, s_ret_slc, s_ret_call, s_ret_callK, s_ret_op0, s_ret_op1, s_ret_callM, s_ret_blt, s_ret_isx, s_ret_isk, s_ret_comp, s_app, k_runR, k_runN, for_nil, k_forN, k_forC, k_forB, k_forR, g_nm, g_tp, o_some, noErr_ret, Yes, retK, ret_bind, err_bind, bad_bind, draw_bind, getV, slOf, slO, setAll, parT, List.length_cons, List.length_nil, List.map_cons, List.map_nil, List.getElem?_cons_zero, List.getElem?_cons_succ, List.set_cons_zero, List.set_cons_succ, List.cons_append, List.nil_append, List.replicate_succ, List.replicate_zero, e8s, Bool.not_true, Bool.false_eq_true, if_false]
  unfold t15_4
  simp only [e_non, e_bl, e_int, e_str, e_var, e_con, e_bin, e_neg, e_cmp, e_chain, e_and, e_or, e_not, e_ite, e_tup, e_lst, e_idx, e_slc, e_call, e_callK, e_blt, e_isk, e_caught, e_isx, e_op0, e_op1, e_callM, b_op1, b_callM, i_callK, i_op1, o_emp, o_revT, b_var, b_cmp, b_chain, b_and, b_or, b_not, b_yes, b_call, b_callK, b_blt, b_isx, b_isk, a_nil, a_cons, r_nil, r_cons, o_nopart, o_part, i_rng1, i_rng2, i_zip, i_enum, i_cap, i_var, i_blt, i_call, i_tup, i_lst, i_idx, i_slc, q_add, q_sub, q_neg, q_lt, q_le, q_gt, q_ge, q_eqI, q_neI, q_isNN, q_isNT, q_isNI, q_isNL, q_isBB, q_isNB, q_isNS, q_isnNN, q_isnNT, q_isnNI, q_isnNL, q_andT, q_andF, q_orT, q_orF, q_not, q_toB, q_part, q_fzI, q_fzB, q_fzS, q_fzN, q_fzT, q_fzL, q_fzW, q_fzSt, q_fzSc, s_nil, s_cons, k_nx, k_rt, k_bk, k_ct, s_asg, s_asgF, s_asgT, k_asg, s_par, s_expr, s_iff, s_retN, s_raise, s_brk, s_cont, s_pass, s_frz, k_frzO, k_frzV, s_retV, k_retO, k_retV, s_ret_non, s_ret_bl, s_ret_int, s_ret_str, s_ret_con, s_ret_bin, s_ret_neg, s_ret_cmp, s_ret_chain, s_ret_and, s_ret_or, s_ret_not, s_ret_ite, s_ret_tup, s_ret_lst, s_ret_idx, s_ret_slc, s_ret_call, s_ret_callK, s_ret_op0, s_ret_op1, s_ret_callM, s_ret_blt, s_ret_isx, s_ret_isk, s_ret_comp, s_app, k_runR, k_runN, for_nil, k_forN, k_forC, k_forB, k_forR, g_nm, g_tp, o_some, noErr_ret, Yes, retK, ret_bind, err_bind, bad_bind, draw_bind, getV, slOf, slO, setAll, parT, List.length_cons, List.length_nil, List.map_cons, List.map_nil, List.getElem?_cons_zero, List.getElem?_cons_succ, List.set_cons_zero, List.set_cons_succ, List.cons_append, List.nil_append, List.replicate_succ, List.replicate_zero, Bool.false_eq_true, if_false]
  unfold t15_5
  simp only [e_non, e_bl, e_int, e_str, e_var, e_con, e_bin, e_neg, e_cmp, e_chain, e_and, e_or, e_not, e_ite, e_tup, e_lst, e_idx, e_slc, e_call, e_callK, e_blt, e_isk, e_caught, e_isx, e_op0, e_op1, e_callM, b_op1, b_callM, i_callK, i_op1, o_emp, o_revT, b_var, b_cmp, b_chain, b_and, b_or, b_not, b_yes, b_call, b_callK, b_blt, b_isx, b_isk, a_nil, a_cons, r_nil, r_cons, o_nopart, o_part, i_rng1, i_rng2, i_zip, i_enum, i_cap, i_var, i_blt, i_call, i_tup, i_lst, i_idx, i_slc, q_add, q_sub, q_neg, q_lt, q_le, q_gt, q_ge, q_eqI, q_neI, q_isNN, q_isNT, q_isNI, q_isNL, q_isBB, q_isNB, q_isNS, q_isnNN, q_isnNT, q_isnNI, q_isnNL, q_andT, q_andF, q_orT, q_orF, q_not, q_toB, q_part, q_fzI, q_fzB, q_fzS, q_fzN, q_fzT, q_fzL, q_fzW, q_fzSt, q_fzSc, s_nil, s_cons, k_nx, k_rt, k_bk, k_ct, s_asg, s_asgF, s_asgT, k_asg, s_par, s_expr, s_iff, s_retN, s_raise, s_brk, s_cont, s_pass, s_frz, k_frzO, k_frzV, s_retV, k_retO, k_retV, s_ret_non, s_ret_bl, s_ret_int, s_ret_str, s_ret_con, s_ret_bin, s_ret_neg, s_ret_cmp, s_ret_chain, s_ret_and, s_ret_or, s_ret_not, s_ret_ite, s_ret_tup, s_ret_lst, s_ret_idx, s_ret_slc, s_ret_call, s_ret_callK, s_ret_op0, s_ret_op1, s_ret_callM, s_ret_blt, s_ret_isx, s_ret_isk, s_ret_comp, s_app, k_runR, k_runN, for_nil, k_forN, k_forC, k_forB, k_forR, g_nm, g_tp, o_some, noErr_ret, Yes, retK, ret_bind, err_bind, bad_bind, draw_bind, getV, slOf, slO, setAll, parT, List.length_cons, List.length_nil, List.map_cons, List.map_nil, List.getElem?_cons_zero, List.getElem?_cons_succ, List.set_cons_zero, List.set_cons_succ, List.cons_append, List.nil_append, List.replicate_succ, List.replicate_zero, e4]
  unfold t15_6
  simp only [e_non, e_bl, e_int, e_str, e_var, e_con, e_bin, e_neg, e_cmp, e_chain, e_and, e_or, e_not, e_ite, e_tup, e_lst, e_idx, e_slc, e_call, e_callK, e_blt, e_isk, e_caught, e_isx, e_op0, e_op1, e_callM, b_op1, b_callM, i_callK, i_op1, o_emp, o_revT, b_var, b_cmp, b_chain, b_and, b_or, b_not, b_yes, b_call, b_callK, b_blt, b_isx, b_isk, a_nil, a_cons, r_nil, r_cons, o_nopart, o_part, i_rng1, i_rng2, i_zip, i_enum, i_cap, i_var, i_blt, i_call, i_tup, i_lst, i_idx, i_slc, q_add, q_sub, q_neg, q_lt, q_le, q_gt, q_ge, q_eqI, q_neI, q_isNN, q_isNT, q_isNI, q_isNL, q_isBB, q_isNB, q_isNS, q_isnNN, q_isnNT, q_isnNI, q_isnNL, q_andT, q_andF, q_orT, q_orF, q_not, q_toB, q_part, q_fzI, q_fzB, q_fzS, q_fzN, q_fzT, q_fzL, q_fzW, q_fzSt, q_fzSc, s_nil, s_cons, k_nx, k_rt, k_bk, k_ct, s_asg, s_asgF, s_asgT, k_asg, s_par, s_expr, s_iff, s_retN, s_raise, s_brk, s_cont, s_pass, s_frz, k_frzO, k_frzV, s_retV, k_retO, k_retV, s_ret_non, s_ret_bl, s_ret_int, s_ret_str, s_ret_con, s_ret_bin, s_ret_neg, s_ret_cmp, s_ret_chain, s_ret_and, s_ret_or, s_ret_not, s_ret_ite, s_ret_tup, s_ret_lst, s_ret_idx, s_ret_slc, s_ret_call, s_ret_callK, s_ret_op0, s_ret_op1, s_ret_callM, s_ret_blt, s_ret_isx, s_ret_isk, s_ret_comp, s_app, k_runR, k_runN, for_nil, k_forN, k_forC, k_forB, k_forR, g_nm, g_tp, o_some, noErr_ret, Yes, retK, ret_bind, err_bind, bad_bind, draw_bind, getV, slOf, slO, setAll, parT, List.length_cons, List.length_nil, List.map_cons, List.map_nil, List.getElem?_cons_zero, List.getElem?_cons_succ, List.set_cons_zero, List.set_cons_succ, List.cons_append, List.nil_append, List.replicate_succ, List.replicate_zero, e13, Bool.not_true, Bool.false_eq_true, if_false]
  unfold t15_7
  simp only [e_non, e_bl, e_int, e_str, e_var, e_con, e_bin, e_neg, e_cmp, e_chain, e_and, e_or, e_not, e_ite, e_tup, e_lst, e_idx, e_slc, e_call, e_callK, e_blt, e_isk, e_caught, e_isx, e_op0, e_op1, e_callM, b_op1, b_callM, i_callK, i_op1, o_emp, o_revT, b_var, b_cmp, b_chain, b_and, b_or, b_not, b_yes, b_call, b_callK, b_blt, b_isx, b_isk, a_nil, a_cons, r_nil, r_cons, o_nopart, o_part, i_rng1, i_rng2, i_zip, i_enum, i_cap, i_var, i_blt, i_call, i_tup, i_lst, i_idx, i_slc, q_add, q_sub, q_neg, q_lt, q_le, q_gt, q_ge, q_eqI, q_neI, q_isNN, q_isNT, q_isNI, q_isNL, q_isBB, q_isNB, q_isNS, q_isnNN, q_isnNT, q_isnNI, q_isnNL, q_andT, q_andF, q_orT, q_orF, q_not, q_toB, q_part, q_fzI, q_fzB, q_fzS, q_fzN, q_fzT, q_fzL, q_fzW, q_fzSt, q_fzSc, s_nil, s_cons, k_nx, k_rt, k_bk, k_ct, s_asg, s_asgF, s_asgT, k_asg, s_par, s_expr, s_iff, s_retN, s_raise, s_brk, s_cont, s_pass, s_frz, k_frzO, k_frzV, s_retV, k_retO, k_retV, s_ret_non, s_ret_bl, s_ret_int, s_ret_str, s_ret_con, s_ret_bin, s_ret_neg, s_ret_cmp, s_ret_chain, s_ret_and, s_ret_or, s_ret_not, s_ret_ite, s_ret_tup, s_ret_lst, s_ret_idx, s_ret_slc, s_ret_call, s_ret_callK, s_ret_op0, s_ret_op1, s_ret_callM, s_ret_blt, s_ret_isx, s_ret_isk, s_ret_comp, s_app, k_runR, k_runN, for_nil, k_forN, k_forC, k_forB, k_forR, g_nm, g_tp, o_some, noErr_ret, Yes, retK, ret_bind, err_bind, bad_bind, draw_bind, getV, slOf, slO, setAll, parT, List.length_cons, List.length_nil, List.map_cons, List.map_nil, List.getElem?_cons_zero, List.getElem?_cons_succ, List.set_cons_zero, List.set_cons_succ, List.cons_append, List.nil_append, List.replicate_succ, List.replicate_zero, h8, Bool.false_eq_true, if_false]
  unfold t15_8
  simp only [e_non, e_bl, e_int, e_str, e_var, e_con, e_bin, e_neg, e_cmp, e_chain, e_and, e_or, e_not, e_ite, e_tup, e_lst, e_idx, e_slc, e_call, e_callK, e_blt, e_isk, e_caught, e_isx, e_op0, e_op1, e_callM, b_op1, b_callM, i_callK, i_op1, o_emp, o_revT, b_var, b_cmp, b_chain, b_and, b_or, b_not, b_yes, b_call, b_callK, b_blt, b_isx, b_isk, a_nil, a_cons, r_nil, r_cons, o_nopart, o_part, i_rng1, i_rng2, i_zip, i_enum, i_cap, i_var, i_blt, i_call, i_tup, i_lst, i_idx, i_slc, q_add, q_sub, q_neg, q_lt, q_le, q_gt, q_ge, q_eqI, q_neI, q_isNN, q_isNT, q_isNI, q_isNL, q_isBB, q_isNB, q_isNS, q_isnNN, q_isnNT, q_isnNI, q_isnNL, q_andT, q_andF, q_orT, q_orF, q_not, q_toB, q_part, q_fzI, q_fzB, q_fzS, q_fzN, q_fzT, q_fzL, q_fzW, q_fzSt, q_fzSc, s_nil, s_cons, k_nx, k_rt, k_bk, k_ct, s_asg, s_asgF, s_asgT, k_asg, s_par, s_expr, s_iff, s_retN, s_raise, s_brk, s_cont, s_pass, s_frz, k_frzO, k_frzV, s_retV, k_retO, k_retV, s_ret_non, s_ret_bl, s_ret_int, s_ret_str, s_ret_con, s_ret_bin, s_ret_neg, s_ret_cmp, s_ret_chain, s_ret_and, s_ret_or, s_ret_not, s_ret_ite, s_ret_tup, s_ret_lst, s_ret_idx, s_ret_slc, s_ret_call, s_ret_callK, s_ret_op0, s_ret_op1, s_ret_callM, s_ret_blt, s_ret_isx, s_ret_isk, s_ret_comp, s_app, k_runR, k_runN, for_nil, k_forN, k_forC, k_forB, k_forR, g_nm, g_tp, o_some, noErr_ret, Yes, retK, ret_bind, err_bind, bad_bind, draw_bind, getV, slOf, slO, setAll, parT, List.length_cons, List.length_nil, List.map_cons, List.map_nil, List.getElem?_cons_zero, List.getElem?_cons_succ, List.set_cons_zero, List.set_cons_succ, List.cons_append, List.nil_append, List.replicate_succ, List.replicate_zero, e91, e92, e10, eq1]
theorem f15c {c w s : D} (hc : kd c = true) (hw : kd w = true) (hs : kd s = true)
    (e4 : k 4 [c, w, s] = missT c w s)
    (e8 : ∀ d (m : Int), kd d = true → k 8 [d, .int m] = .ret (.bl (inW m d)))
    (e9 : ∀ a b : Int, 0 ≤ a → a ≤ 1000 → 0 ≤ b → b ≤ 1001 → k 9 [.int a, .int b] = .ret (.int (chI a b)))
    (e10 : ∀ p q : Int, 0 ≤ p → 1 ≤ q → q < 2 ^ 192 → k 10 [.int p, .int q] = .ret (lowD p q))
    (e13 : ∀ p q : Int, k 13 [.tup [.int p, .int q]] = .ret (.bl (isC (.tup [.int p, .int q]))))
    (small : ∀ C W S : Int, c = .int C → w = .int W → s = .int S → 1 ≤ C → C < 8 → 1 ≤ W → W ≤ C → 0 ≤ S → S ≤ C → (ex k WH d15.body (startE d15.N [c, w, s]) >>= runK) = .ret (.bl true)) :
    (ex k WH d15.body (startE d15.N [c, w, s]) >>= runK) = .ret (.bl true) := by
  have fz1 := kd_fz hc
  have fz2 := kd_fz hw
  have fz3 := kd_fz hs
  have e8c := e8 c 61 hc
  have st : startE d15.N [c, w, s] = [.val c, .val w, .val s, .un, .un, .un, .un, .un, .un] := rfl
  by_cases h1 : inN 1 60 c = true
  · have h1' := inN_W (m := 61) h1
    obtain ⟨C, rfl, c1, c2⟩ := inN_int h1
    have C0 : C ≠ 0 := by omega
    have e8w := e8 w (C + 1) hw
    have e8s := e8 s (C + 1) hs
    by_cases h2 : inN 1 C w = true
    · have h2' := inN_W (m := C + 1) (by rw [Int.add_sub_cancel]; exact h2)
      obtain ⟨W, rfl, w1, w2⟩ := inN_int h2
      have W0 : W ≠ 0 := by omega
      rw [← inN_W0] at e8s
      by_cases h3 : inN 0 C s = true
      · obtain ⟨S, rfl, s1, s2⟩ := inN_int h3
        by_cases h8 : C < 8
        · exact small C W S rfl rfl rfl c1 h8 w1 w2 s1 s2
        · rw [miss_ok h1 h2 h3] at e4
          rw [h3] at e8s
          have e91 := e9 (C - W) S (by omega) (by omega) s1 (by omega)
          have e92 := e9 C S (by omega) (by omega) s1 (by omega)
          have k1 := chI_nn (i := C - W) (j := S)
          have k2 := chI_n60 (s := S) c1 c2 w1
          have k3 := chI_pos s1 s2
          have k4 := chI_60 (j := S) c1 c2
          have e10' := e10 (chI (C - W) S) (chI C S) k1 k3 (by omega)
          have e13' := e13 (chI (C - W) S / gz (chI (C - W) S) (chI C S)) (chI C S / gz (chI (C - W) S) (chI C S))
          have ic := isC_low k1 k2 k3 k4
          unfold lowD at ic e4 e10'
          rw [ic] at e13'
          rw [st, body15, f15g e4, f15B C0 h1' e8c, f15W W0 h2' e8w, f15h e8s e4 e13' (decide_eq_false h8) e91 e92 e10']
          rfl
      · rw [Bool.not_eq_true] at h3
        rw [miss_s h1 h2 h3] at e4
        rw [h3] at e8s
        rw [st, body15, f15e (by decide) fz2 fz3 e4, f15B C0 h1' e8c, f15W W0 h2' e8w, f15s fz3 e8s]
        rfl
    · rw [Bool.not_eq_true] at h2
      rw [miss_w h1 h2] at e4
      rw [st, body15, f15e (by decide) fz2 fz3 e4, f15B C0 h1' e8c, f15w fz2 h2 e8w]
      rfl
  · rw [Bool.not_eq_true] at h1
    rw [miss_c h1] at e4
    rw [st, body15, f15A fz1 fz2 fz3 h1 e4 e8c]
    rfl
end
end LW
end
section
set_option maxHeartbeats 1000000
namespace LW
open PySem PV
/-- all lots of few claims -/
def sm (C : Nat) : Bool := (List.range C).all fun w => (List.range (C + 1)).all fun s => isBlT true (callF tab WH 10 15 [.int C, .int (w + 1 : Nat), .int s])
theorem sm1 : sm 1 = true := by decide +kernel
theorem sm2 : sm 2 = true := by decide +kernel
theorem sm3 : sm 3 = true := by decide +kernel
theorem sm4 : sm 4 = true := by decide +kernel
theorem sm5 : sm 5 = true := by decide +kernel
theorem sm6 : sm 6 = true := by decide +kernel
theorem sm7 : sm 7 = true := by decide +kernel
theorem small15 {C W S : Int} (c1 : 1 ≤ C) (c2 : C < 8) (w1 : 1 ≤ W) (w2 : W ≤ C) (s1 : 0 ≤ S) (s2 : S ≤ C) : callF tab WH 10 15 [.int C, .int W, .int S] = .ret (.bl true) := by
  refine isBlT_ok ?_
  obtain ⟨c, rfl⟩ := Int.eq_ofNat_of_zero_le (show 0 ≤ C by omega)
  obtain ⟨s, rfl⟩ := Int.eq_ofNat_of_zero_le s1
  obtain ⟨w, rfl⟩ : ∃ w : Nat, W = ((w + 1 : Nat) : Int) := ⟨(W - 1).toNat, by omega⟩
  have h : sm c = true := by
    rcases (by omega : c = 1 ∨ c = 2 ∨ c = 3 ∨ c = 4 ∨ c = 5 ∨ c = 6 ∨ c = 7) with rfl | rfl | rfl | rfl | rfl | rfl | rfl
    · exact sm1
    · exact sm2
    · exact sm3
    · exact sm4
    · exact sm5
    · exact sm6
    · exact sm7
  unfold sm at h
  rw [List.all_eq_true] at h
  have h := h w (List.mem_range.mpr (by omega))
  rw [List.all_eq_true] at h
  exact h s (List.mem_range.mpr (by omega))
theorem f15 {c w s : D} (hc : kd c = true) (hw : kd w = true) (hs : kd s = true) : callF tab WH 10 15 [c, w, s] = .ret (.bl true) := by
  show runD (callF tab WH 9) WH d15 _ = _
  rw [run_eq rfl]
  refine f15c hc hw hs (f4 (n := 5) hc hw hs) (fun d m hd => f8 (n := 7) hd) (fun a b a0 a1 b0 b1 => f9 (n := 8) a0 a1 b0 b1) (fun p q p0 q0 q1 => f10 (n := 8) p0 q0 q1) (fun p q => f13p (n := 7)) (fun C W S ec ew es c1 c2 w1 w2 s1 s2 => ?_)
  subst ec ew es
  have h : runD (callF tab WH 9) WH d15 [.int C, .int W, .int S] = .ret (.bl true) := small15 c1 c2 w1 w2 s1 s2
  rw [run_eq rfl] at h
  exact h
theorem dr {m : Nat} {k : Int} (h : 0 < k) (h2 : k < 2 ^ 64) : callF tab WH (m + 2) 0 [.sta, .int k] = .draw k fun d => .ret (.int d) := by
  show (if m + 1 = 0 then T.bad else drawP [.sta, .int k]) = _
  rw [if_neg (by omega), draw_ok h h2]
theorem idx_D {xs : List D} {d : Int} (h0 : 0 ≤ d) (h1 : d < xs.length) : ∃ v ∈ xs, idxT (.lst xs) (.int d) = .ret v := by
  obtain ⟨i, rfl⟩ := Int.eq_ofNat_of_zero_le h0
  have hi : i < xs.length := by omega
  refine ⟨xs[i], List.getElem_mem hi, ?_⟩
  show ofO (L2.atI xs (i : Int)) = _
  rw [idx_nat (i := i) (x := xs[i]) (List.getElem?_eq_getElem hi)]
  rfl
theorem retK_kd {d : D} (h : kd d = true) : retK d = .ret (.rt d) := by
  cases d <;> first | rfl | cases h
theorem f6i {c : Nat → List D → T D} {xs : List D} {v : D} {d : Int} (hk : kd v = true) (ev : idxT (.lst xs) (.int d) = .ret v) : (idxT (.lst xs) (.int d) >>= retK >>= seqK (ex c WH .nil) >>= runK) = .ret v := by
  rw [ev, ret_bind, retK_kd hk]
  rfl
theorem f6 {n : Nat} {xs : List D} (h0 : 0 < xs.length) (h1 : xs.length < 1000) (hk : ∀ d ∈ xs, kd d = true) : Yes (fun d => d ∈ xs) (callF tab WH (n + 3) 6 [.sta, .lst xs]) := by
  refine Yes.of_eq (u := runD (callF tab WH (n + 2)) WH d6 [.sta, .lst xs]) rfl ?_
  constructor
  rw [run_eq rfl]
  have hl : bltT .len [.lst xs] = .ret (.int xs.length) := rfl
  have e1 := dr (m := n) (k := xs.length) (by omega) (by omega)
  have e2 : (ex (callF tab WH (n + 2)) WH d6.body (startE d6.N [.sta, .lst xs]) >>= runK) = T.draw (xs.length : Int) fun d => (idxT (.lst xs) (.int d) >>= retK >>= seqK (ex (callF tab WH (n + 2)) WH .nil) >>= runK) := by
    simp only [d6, startE]
    simp only [List.length_cons, List.length_nil, List.map_cons, List.map_nil, List.getElem?_cons_zero, List.getElem?_cons_succ, List.set_cons_zero, List.set_cons_succ, List.cons_append, List.nil_append, List.replicate_succ, List.replicate_zero, s_cons, s_ret_idx, e_idx, e_call, e_blt, e_var, a_cons, a_nil, r_cons, r_nil, getV, ret_bind, hl, q_fzSt, q_fzI, q_fzL, e1, draw_bind]
  rw [e2]
  refine fun d d0 d1 => ?_
  obtain ⟨v, hv, ev⟩ := idx_D d0 d1
  show T.All0 _ _ (idxT (.lst xs) (.int d) >>= retK >>= seqK (ex (callF tab WH (n + 2)) WH .nil) >>= runK)
  rw [f6i (hk v hv) ev]
  exact hv
end LW
end
section
set_option maxHeartbeats 1000000
namespace LW
open PySem PV
theorem f6c {n : Nat} {c : Nat → List D → T D} (hc : c = callF tab WH (n + 3)) {xs : List D} (h0 : 0 < xs.length) (h1 : xs.length < 1000) (hk : ∀ d ∈ xs, kd d = true) : Yes (fun d => d ∈ xs) (c 6 [.sta, .lst xs]) := by
  subst hc
  exact f6 h0 h1 hk
theorem drc {m : Nat} {c : Nat → List D → T D} (hc : c = callF tab WH (m + 2)) {k : Int} (h : 0 < k) (h2 : k < 2 ^ 64) : c 0 [.sta, .int k] = .draw k fun d => .ret (.int d) := by
  subst hc
  exact dr h h2
theorem f9c {n : Nat} {k : Nat → List D → T D} (hk : k = callF tab WH (n + 1)) {c s : Int} (c0 : 0 ≤ c) (c1 : c ≤ 1000) (s0 : 0 ≤ s) (s1 : s ≤ 1001) : k 9 [.int c, .int s] = .ret (.int (chI c s)) := by
  subst hk
  exact f9 c0 c1 s0 s1
theorem f10c {n : Nat} {k : Nat → List D → T D} (hk : k = callF tab WH (n + 1)) {p q : Int} (hp : 0 ≤ p) (hq : 1 ≤ q) (hq2 : q < 2 ^ 192) : k 10 [.int p, .int q] = .ret (lowD p q) := by
  subst hk
  exact f10 hp hq hq2
def t12_5 : S := .cons (.ret (.call 6 (.cons (.var 0) (.cons (.bin .add (.bin .add (.var 5) (.lst (.cons (.lst (.cons (.int 1) (.cons (.int 2) .nil))) (.cons .non (.cons (.tup (.cons (.int 1) (.cons (.str "2") .nil))) (.cons (.str "12") (.cons (.var 7) (.cons (.var 7) (.cons (.var 7) .nil))))))))) (.bin .mul (.lst (.cons (.var 4) (.cons (.var 6) (.cons (.var 6) .nil)))) (.int 5))) .nil)))) .nil
def t12_4 : S := .cons (.asgF 6 (.call 10 (.cons (.blt .max (.cons (.int 0) (.cons (.bin .add (.bin .mul (.idx (.var 4) (.int 0)) (.var 8)) (.call 6 (.cons (.var 0) (.cons (.lst (.cons (.int 1) (.cons (.bin .sub (.int 0) (.int 1)) .nil))) .nil)))) .nil))) (.cons (.bin .mul (.idx (.var 4) (.int 1)) (.var 8)) .nil)))) t12_5
def t12_3 : S := .cons (.par [7, 8] (.cons (.call 10 (.cons (.bin .add (.int 1) (.call 0 (.cons (.var 0) (.cons (.int 97) .nil)))) (.cons (.bin .add (.int 1) (.call 0 (.cons (.var 0) (.cons (.int 1009) .nil)))) .nil))) (.cons (.blt .max (.cons (.int 1) (.cons (.bin .fdiv (.bin .pow (.int 10) (.int 17)) (.idx (.var 4) (.int 1))) .nil))) .nil))) t12_4
def t12_2 : S := .cons (.asgF 5 (.lst (.cons (.tup (.cons (.int 0) (.cons (.int 1) .nil))) (.cons (.tup (.cons (.int 1) (.cons (.int 1) .nil))) (.cons (.tup (.cons (.int 1) (.cons (.int 2) .nil))) (.cons (.tup (.cons (.int 1) (.cons (.int 20) .nil))) (.cons (.tup (.cons (.int 1) (.cons (.bin .pow (.int 10) (.int 17)) .nil))) (.cons (.tup (.cons (.int 7) (.cons (.int 3) .nil))) (.cons (.tup (.cons (.int 2) (.cons (.int 4) .nil))) (.cons (.tup (.cons (.int 0) (.cons (.int 2) .nil))) (.cons (.tup (.cons (.int 1) (.cons (.int 0) .nil))) (.cons (.tup (.cons (.bin .sub (.int 0) (.int 1)) (.cons (.int 2) .nil))) (.cons (.tup (.cons (.int 1) (.cons (.int 2) (.cons (.int 3) .nil)))) (.cons (.tup (.cons (.bl true) (.cons (.int 2) .nil))) .nil)))))))))))))) t12_3
def t12_1 : S := .cons (.asgF 4 (.call 10 (.cons (.call 9 (.cons (.bin .sub (.var 1) (.var 2)) (.cons (.var 3) .nil))) (.cons (.call 9 (.cons (.var 1) (.cons (.var 3) .nil))) .nil)))) t12_2
def t12_0 : S := .cons (.asgF 3 (.call 0 (.cons (.var 0) (.cons (.bin .add (.blt .min (.cons (.var 1) (.cons (.int 30) .nil))) (.int 1)) .nil)))) t12_1
theorem body12 : d12.body = t12_0 := rfl
theorem min_int {i j : Int} : bltT .min [.int i, .int j] = .ret (.int (min i j)) := by
  show T.ret (D.int (if j < i then j else i)) = _
  congr 2
  omega
theorem max_int {i j : Int} : bltT .max [.int i, .int j] = .ret (.int (max i j)) := by
  show T.ret (D.int (if j > i then j else i)) = _
  congr 2
  omega
def some12 : List D := [.tup [.int 0, .int 1], .tup [.int 1, .int 1], .tup [.int 1, .int 2], .tup [.int 1, .int 20], .tup [.int 1, .int 100000000000000000], .tup [.int 7, .int 3], .tup [.int 2, .int 4], .tup [.int 0, .int 2], .tup [.int 1, .int 0], .tup [.int (0 - 1), .int 2], .tup [.int 1, .int 2, .int 3], .tup [.bl true, .int 2]]
theorem lt12 {a b c d e f g h i j k l : D} : lenT [a, b, c, d, e, f, g, h, i, j, k, l] (.new [a, b, c, d, e, f, g, h, i, j, k, l]) = .ret (.new [a, b, c, d, e, f, g, h, i, j, k, l]) := rfl
theorem lt7 {a b c d e f g : D} : lenT [a, b, c, d, e, f, g] (.new [a, b, c, d, e, f, g]) = .ret (.new [a, b, c, d, e, f, g]) := rfl
theorem lt3 {a b c : D} : lenT [a, b, c] (.new [a, b, c]) = .ret (.new [a, b, c]) := rfl
theorem lt2 {a b : D} : lenT [a, b] (.new [a, b]) = .ret (.new [a, b]) := rfl
theorem yes_then {α β : Type} {P : α → Prop} {V : β → Prop} {f : α → T β} {t : T α} (h : Yes P t) (H : ∀ x, P x → Yes V (f x)) : Yes V (t >>= f) := ⟨all0_bind.mpr (All0.mono h.all (fun x q => (H x q).all) fun _ e => e)⟩
theorem yes_draw {α : Type} {V : α → Prop} {n : Int} {f : Int → T α} (H : ∀ d, 0 ≤ d → d < n → Yes V (f d)) : Yes V (.draw n f) := ⟨fun d h0 h1 => (H d h0 h1).all⟩
theorem yes_ret {α : Type} {V : α → Prop} {x : α} (h : V x) : Yes V (.ret x) := ⟨h⟩
section
variable {k : Nat → List D → T D}
theorem s12_2 {r0 r1 r2 r3 r4 r5 r6 r7 r8 : Sl} : ex k WH t12_2 [r0, r1, r2, r3, r4, r5, r6, r7, r8] = ex k WH t12_3 [r0, r1, r2, r3, r4, .val (.lst some12), r6, r7, r8] := by
  unfold t12_2
  simp only [e_non, e_bl, e_int, e_str, e_var, e_con, e_bin, e_neg, e_cmp, e_chain, e_and, e_or, e_not, e_ite, e_tup, e_lst, e_idx, e_slc, e_call, e_callK, e_blt, e_isk, e_caught, e_isx, e_op0, e_op1, e_callM, b_op1, b_callM, i_callK, i_op1, o_emp, o_revT, b_var, b_cmp, b_chain, b_and, b_or, b_not, b_yes, b_call, b_callK, b_blt, b_isx, b_isk, a_nil, a_cons, r_nil, r_cons, o_nopart, o_part, i_rng1, i_rng2, i_zip, i_enum, i_cap, i_var, i_blt, i_call, i_tup, i_lst, i_idx, i_slc, q_add, q_sub, q_neg, q_lt, q_le, q_gt, q_ge, q_eqI, q_neI, q_isNN, q_isNT, q_isNI, q_isNL, q_isBB, q_isNB, q_isNS, q_isnNN, q_isnNT, q_isnNI, q_isnNL, q_andT, q_andF, q_orT, q_orF, q_not, q_toB, q_part, q_fzI, q_fzB, q_fzS, q_fzN, q_fzT, q_fzL, q_fzW, q_fzSt, q_fzSc, s_nil, s_cons, k_nx, k_rt, k_bk, k_ct, s_asg, s_asgF, s_asgT, k_asg, s_par, s_expr, s_iff, s_retN, s_raise, s_brk, s_cont, s_pass, s_frz, k_frzO, k_frzV, s_retV, k_retO, k_retV, s_ret_non, s_ret_bl, s_ret_int, s_ret_str, s_ret_con, s_ret_bin, s_ret_neg, s_ret_cmp, s_ret_chain, s_ret_and, s_ret_or, s_ret_not, s_ret_ite, s_ret_tup, s_ret_lst, s_ret_idx, s_ret_slc, s_ret_call, s_ret_callK, s_ret_op0, s_ret_op1, s_ret_callM, s_ret_blt, s_ret_isx, s_ret_isk, s_ret_comp, s_app, k_runR, k_runN, for_nil, k_forN, k_forC, k_forB, k_forR, g_nm, g_tp, o_some, noErr_ret, Yes, retK, ret_bind, err_bind, bad_bind, draw_bind, getV, slOf, slO, setAll, parT, List.length_cons, List.length_nil, List.map_cons, List.map_nil, List.getElem?_cons_zero, List.getElem?_cons_succ, List.set_cons_zero, List.set_cons_succ, List.cons_append, List.nil_append, List.replicate_succ, List.replicate_zero, t2, t3, pw17, lt12]
  rfl
def all12 (own close more : D) : List D := some12 ++ [.lst [.int 1, .int 2], .non, .tup [.int 1, .str "2"], .str "12", more, more, more] ++ [own, close, close, own, close, close, own, close, close, own, close, close, own, close, close]
theorem add_ln {a b : List D} (h : a.length + b.length ≤ 16777216) : binT .add (.lst a) (.new b) = .ret (.new (a ++ b)) := by
  show lenIf _ _ = _
  exact if_pos h
theorem add_nn {a b : List D} (h : a.length + b.length ≤ 16777216) : binT .add (.new a) (.new b) = .ret (.new (a ++ b)) := by
  show lenIf _ _ = _
  exact if_pos h
theorem mul_35 {a b c : D} : binT .mul (.new [a, b, c]) (.int 5) = .ret (.new [a, b, c, a, b, c, a, b, c, a, b, c, a, b, c]) := by
  show (if ([a, b, c] : List D).length ≤ 1000 ∧ (0 : Int) ≤ 5 ∧ (5 : Int) ≤ 1000 then T.ret (D.new (List.replicate (5 : Int).toNat [a, b, c]).flatten) else T.bad) = _
  rw [if_pos ⟨by show 3 ≤ 1000; decide, by decide, by decide⟩]
  rfl
theorem e12_5 {r1 r2 r3 : Sl} {own close more x8 : D} (fo : fz own = .ret own) (fc : fz close = .ret close) (fm : fz more = .ret more) : (evs k (.call 6 (.cons (.var 0) (.cons (.bin .add (.bin .add (.var 5) (.lst (.cons (.lst (.cons (.int 1) (.cons (.int 2) .nil))) (.cons .non (.cons (.tup (.cons (.int 1) (.cons (.str "2") .nil))) (.cons (.str "12") (.cons (.var 7) (.cons (.var 7) (.cons (.var 7) .nil))))))))) (.bin .mul (.lst (.cons (.var 4) (.cons (.var 6) (.cons (.var 6) .nil)))) (.int 5))) .nil)))).E [.val .sta, r1, r2, r3, .val own, .val (.lst some12), .val close, .val more, .val x8] = k 6 [.sta, .lst (all12 own close more)] := by
  have a1 := add_ln (a := some12) (b := [.lst [.int 1, .int 2], .non, .tup [.int 1, .str "2"], .str "12", more, more, more]) (by show 12 + 7 ≤ _; decide)
  have a2 := add_nn (a := some12 ++ [.lst [.int 1, .int 2], .non, .tup [.int 1, .str "2"], .str "12", more, more, more]) (b := [own, close, close, own, close, close, own, close, close, own, close, close, own, close, close]) (by show 19 + 15 ≤ _; decide)
  unfold all12
  generalize some12 = L at *
  simp only [e_call, e_bin, e_var, e_lst, e_int, e_str, e_tup, e_non, a_cons, a_nil, ret_bind, getV, List.length_cons, List.length_nil, List.map_cons, List.map_nil, List.getElem?_cons_zero, List.getElem?_cons_succ, List.set_cons_zero, List.set_cons_succ, List.cons_append, List.nil_append, List.replicate_succ, List.replicate_zero, q_fzI, q_fzS, q_fzN, q_fzT, q_fzL, q_fzW, q_fzSt, fo, fc, fm, t2, lt2, lt7, lt3, mul_35, a1, a2]
theorem s12_0 {C W : Int} (e0 : k 0 [.sta, .int (min C 30 + 1)] = .draw (min C 30 + 1) fun d => .ret (.int d)) : ex k WH t12_0 [.val .sta, .val (.int C), .val (.int W), .un, .un, .un, .un, .un, .un] = .draw (min C 30 + 1) fun S => ex k WH t12_1 [.val .sta, .val (.int C), .val (.int W), .val (.int S), .un, .un, .un, .un, .un] := by
  unfold t12_0
  simp only [e_non, e_bl, e_int, e_str, e_var, e_con, e_bin, e_neg, e_cmp, e_chain, e_and, e_or, e_not, e_ite, e_tup, e_lst, e_idx, e_slc, e_call, e_callK, e_blt, e_isk, e_caught, e_isx, e_op0, e_op1, e_callM, b_op1, b_callM, i_callK, i_op1, o_emp, o_revT, b_var, b_cmp, b_chain, b_and, b_or, b_not, b_yes, b_call, b_callK, b_blt, b_isx, b_isk, a_nil, a_cons, r_nil, r_cons, o_nopart, o_part, i_rng1, i_rng2, i_zip, i_enum, i_cap, i_var, i_blt, i_call, i_tup, i_lst, i_idx, i_slc, q_add, q_sub, q_neg, q_lt, q_le, q_gt, q_ge, q_eqI, q_neI, q_isNN, q_isNT, q_isNI, q_isNL, q_isBB, q_isNB, q_isNS, q_isnNN, q_isnNT, q_isnNI, q_isnNL, q_andT, q_andF, q_orT, q_orF, q_not, q_toB, q_part, q_fzI, q_fzB, q_fzS, q_fzN, q_fzT, q_fzL, q_fzW, q_fzSt, q_fzSc, s_nil, s_cons, k_nx, k_rt, k_bk, k_ct, s_asg, s_asgF, s_asgT, k_asg, s_par, s_expr, s_iff, s_retN, s_raise, s_brk, s_cont, s_pass, s_frz, k_frzO, k_frzV, s_retV, k_retO, k_retV, s_ret_non, s_ret_bl, s_ret_int, s_ret_str, s_ret_con, s_ret_bin, s_ret_neg, s_ret_cmp, s_ret_chain, s_ret_and, s_ret_or, s_ret_not, s_ret_ite, s_ret_tup, s_ret_lst, s_ret_idx, s_ret_slc, s_ret_call, s_ret_callK, s_ret_op0, s_ret_op1, s_ret_callM, s_ret_blt, s_ret_isx, s_ret_isk, s_ret_comp, s_app, k_runR, k_runN, for_nil, k_forN, k_forC, k_forB, k_forR, g_nm, g_tp, o_some, noErr_ret, Yes, retK, ret_bind, err_bind, bad_bind, draw_bind, getV, slOf, slO, setAll, parT, List.length_cons, List.length_nil, List.map_cons, List.map_nil, List.getElem?_cons_zero, List.getElem?_cons_succ, List.set_cons_zero, List.set_cons_succ, List.cons_append, List.nil_append, List.replicate_succ, List.replicate_zero, min_int, e0]
theorem s12_1 {C W S a b P Q : Int} (e9a : k 9 [.int (C - W), .int S] = .ret (.int a)) (e9b : k 9 [.int C, .int S] = .ret (.int b)) (e10 : k 10 [.int a, .int b] = .ret (.tup [.int P, .int Q])) : ex k WH t12_1 [.val .sta, .val (.int C), .val (.int W), .val (.int S), .un, .un, .un, .un, .un] = ex k WH t12_2 [.val .sta, .val (.int C), .val (.int W), .val (.int S), .val (.tup [.int P, .int Q]), .un, .un, .un, .un] := by
  unfold t12_1
  simp only [e_non, e_bl, e_int, e_str, e_var, e_con, e_bin, e_neg, e_cmp, e_chain, e_and, e_or, e_not, e_ite, e_tup, e_lst, e_idx, e_slc, e_call, e_callK, e_blt, e_isk, e_caught, e_isx, e_op0, e_op1, e_callM, b_op1, b_callM, i_callK, i_op1, o_emp, o_revT, b_var, b_cmp, b_chain, b_and, b_or, b_not, b_yes, b_call, b_callK, b_blt, b_isx, b_isk, a_nil, a_cons, r_nil, r_cons, o_nopart, o_part, i_rng1, i_rng2, i_zip, i_enum, i_cap, i_var, i_blt, i_call, i_tup, i_lst, i_idx, i_slc, q_add, q_sub, q_neg, q_lt, q_le, q_gt, q_ge, q_eqI, q_neI, q_isNN, q_isNT, q_isNI, q_isNL, q_isBB, q_isNB, q_isNS, q_isnNN, q_isnNT, q_isnNI, q_isnNL, q_andT, q_andF, q_orT, q_orF, q_not, q_toB, q_part, q_fzI, q_fzB, q_fzS, q_fzN, q_fzT, q_fzL, q_fzW, q_fzSt, q_fzSc, s_nil, s_cons, k_nx, k_rt, k_bk, k_ct, s_asg, s_asgF, s_asgT, k_asg, s_par, s_expr, s_iff, s_retN, s_raise, s_brk, s_cont, s_pass, s_frz, k_frzO, k_frzV, s_retV, k_retO, k_retV, s_ret_non, s_ret_bl, s_ret_int, s_ret_str, s_ret_con, s_ret_bin, s_ret_neg, s_ret_cmp, s_ret_chain, s_ret_and, s_ret_or, s_ret_not, s_ret_ite, s_ret_tup, s_ret_lst, s_ret_idx, s_ret_slc, s_ret_call, s_ret_callK, s_ret_op0, s_ret_op1, s_ret_callM, s_ret_blt, s_ret_isx, s_ret_isk, s_ret_comp, s_app, k_runR, k_runN, for_nil, k_forN, k_forC, k_forB, k_forR, g_nm, g_tp, o_some, noErr_ret, Yes, retK, ret_bind, err_bind, bad_bind, draw_bind, getV, slOf, slO, setAll, parT, List.length_cons, List.length_nil, List.map_cons, List.map_nil, List.getElem?_cons_zero, List.getElem?_cons_succ, List.set_cons_zero, List.set_cons_succ, List.cons_append, List.nil_append, List.replicate_succ, List.replicate_zero, e9a, e9b, e10]
theorem s12_3 {r1 r2 r3 r6 : Sl} {L : List D} {P Q T1 : Int} {V : Fl → Prop} (e97 : k 0 [.sta, .int 97] = .draw 97 fun d => .ret (.int d)) (e1009 : k 0 [.sta, .int 1009] = .draw 1009 fun d => .ret (.int d))
    (e10 : ∀ a b : Int, 0 ≤ a → 1 ≤ b → b < 2 ^ 192 → k 10 [.int a, .int b] = .ret (lowD a b)) (hQ : binT .fdiv (.int 100000000000000000) (.int Q) = .ret (.int T1))
    (H : ∀ a b : Int, Yes V (ex k WH t12_4 [.val .sta, r1, r2, r3, .val (.tup [.int P, .int Q]), .val (.lst L), r6, .val (.tup [.int a, .int b]), .val (.int (max 1 T1))])) :
    Yes V (ex k WH t12_3 [.val .sta, r1, r2, r3, .val (.tup [.int P, .int Q]), .val (.lst L), r6, .un, .un]) := by
  have i2 := (ix2 (a := .int P) (b := .int Q)).2
  unfold t12_3
  simp only [e_non, e_bl, e_int, e_str, e_var, e_con, e_bin, e_neg, e_cmp, e_chain, e_and, e_or, e_not, e_ite, e_tup, e_lst, e_idx, e_slc, e_call, e_callK, e_blt, e_isk, e_caught, e_isx, e_op0, e_op1, e_callM, b_op1, b_callM, i_callK, i_op1, o_emp, o_revT, b_var, b_cmp, b_chain, b_and, b_or, b_not, b_yes, b_call, b_callK, b_blt, b_isx, b_isk, a_nil, a_cons, r_nil, r_cons, o_nopart, o_part, i_rng1, i_rng2, i_zip, i_enum, i_cap, i_var, i_blt, i_call, i_tup, i_lst, i_idx, i_slc, q_add, q_sub, q_neg, q_lt, q_le, q_gt, q_ge, q_eqI, q_neI, q_isNN, q_isNT, q_isNI, q_isNL, q_isBB, q_isNB, q_isNS, q_isnNN, q_isnNT, q_isnNI, q_isnNL, q_andT, q_andF, q_orT, q_orF, q_not, q_toB, q_part, q_fzI, q_fzB, q_fzS, q_fzN, q_fzT, q_fzL, q_fzW, q_fzSt, q_fzSc, s_nil, s_cons, k_nx, k_rt, k_bk, k_ct, s_asg, s_asgF, s_asgT, k_asg, s_par, s_expr, s_iff, s_retN, s_raise, s_brk, s_cont, s_pass, s_frz, k_frzO, k_frzV, s_retV, k_retO, k_retV, s_ret_non, s_ret_bl, s_ret_int, s_ret_str, s_ret_con, s_ret_bin, s_ret_neg, s_ret_cmp, s_ret_chain, s_ret_and, s_ret_or, s_ret_not, s_ret_ite, s_ret_tup, s_ret_lst, s_ret_idx, s_ret_slc, s_ret_call, s_ret_callK, s_ret_op0, s_ret_op1, s_ret_callM, s_ret_blt, s_ret_isx, s_ret_isk, s_ret_comp, s_app, k_runR, k_runN, for_nil, k_forN, k_forC, k_forB, k_forR, g_nm, g_tp, o_some, noErr_ret, Yes, retK, ret_bind, err_bind, bad_bind, draw_bind, getV, slOf, slO, setAll, parT, List.length_cons, List.length_nil, List.map_cons, List.map_nil, List.getElem?_cons_zero, List.getElem?_cons_succ, List.set_cons_zero, List.set_cons_succ, List.cons_append, List.nil_append, List.replicate_succ, List.replicate_zero, e97, e1009]
  refine yes_draw fun d1 a0 a1 => yes_draw fun d2 b0 b1 => ?_
  have e := e10 (1 + d1) (1 + d2) (by omega) (by omega) (by omega)
  unfold lowD at e
  generalize (1 + d1) / gz (1 + d1) (1 + d2) = x at *
  generalize (1 + d2) / gz (1 + d1) (1 + d2) = y at *
  simp only [e_non, e_bl, e_int, e_str, e_var, e_con, e_bin, e_neg, e_cmp, e_chain, e_and, e_or, e_not, e_ite, e_tup, e_lst, e_idx, e_slc, e_call, e_callK, e_blt, e_isk, e_caught, e_isx, e_op0, e_op1, e_callM, b_op1, b_callM, i_callK, i_op1, o_emp, o_revT, b_var, b_cmp, b_chain, b_and, b_or, b_not, b_yes, b_call, b_callK, b_blt, b_isx, b_isk, a_nil, a_cons, r_nil, r_cons, o_nopart, o_part, i_rng1, i_rng2, i_zip, i_enum, i_cap, i_var, i_blt, i_call, i_tup, i_lst, i_idx, i_slc, q_add, q_sub, q_neg, q_lt, q_le, q_gt, q_ge, q_eqI, q_neI, q_isNN, q_isNT, q_isNI, q_isNL, q_isBB, q_isNB, q_isNS, q_isnNN, q_isnNT, q_isnNI, q_isnNL, q_andT, q_andF, q_orT, q_orF, q_not, q_toB, q_part, q_fzI, q_fzB, q_fzS, q_fzN, q_fzT, q_fzL, q_fzW, q_fzSt, q_fzSc, s_nil, s_cons, k_nx, k_rt, k_bk, k_ct, s_asg, s_asgF, s_asgT, k_asg, s_par, s_expr, s_iff, s_retN, s_raise, s_brk, s_cont, s_pass, s_frz, k_frzO, k_frzV, s_retV, k_retO, k_retV, s_ret_non, s_ret_bl, s_ret_int, s_ret_str, s_ret_con, s_ret_bin, s_ret_neg, s_ret_cmp, s_ret_chain, s_ret_and, s_ret_or, s_ret_not, s_ret_ite, s_ret_tup, s_ret_lst, s_ret_idx, s_ret_slc, s_ret_call, s_ret_callK, s_ret_op0, s_ret_op1, s_ret_callM, s_ret_blt, s_ret_isx, s_ret_isk, s_ret_comp, s_app, k_runR, k_runN, for_nil, k_forN, k_forC, k_forB, k_forR, g_nm, g_tp, o_some, noErr_ret, Yes, retK, ret_bind, err_bind, bad_bind, draw_bind, getV, slOf, slO, setAll, parT, List.length_cons, List.length_nil, List.map_cons, List.map_nil, List.getElem?_cons_zero, List.getElem?_cons_succ, List.set_cons_zero, List.set_cons_succ, List.cons_append, List.nil_append, List.replicate_succ, List.replicate_zero, e, pw17, i2, hQ, max_int]
  exact H x y
theorem s12_4 {r1 r2 r3 r6 : Sl} {L : List D} {P Q t a b : Int} {V : Fl → Prop} (e6 : Yes (fun d => d ∈ [D.int 1, D.int (0 - 1)]) (k 6 [.sta, .lst [.int 1, .int (0 - 1)]]))
    (e10 : ∀ a b : Int, 0 ≤ a → 1 ≤ b → b < 2 ^ 192 → k 10 [.int a, .int b] = .ret (lowD a b)) (m1 : binT .mul (.int P) (.int t) = .ret (.int (P * t))) (m2 : binT .mul (.int Q) (.int t) = .ret (.int (Q * t))) (q1 : 1 ≤ Q * t) (q2 : Q * t < 2 ^ 192)
    (H : ∀ a' b' : Int, Yes V (ex k WH t12_5 [.val .sta, r1, r2, r3, .val (.tup [.int P, .int Q]), .val (.lst L), .val (.tup [.int a', .int b']), .val (.tup [.int a, .int b]), .val (.int t)])) :
    Yes V (ex k WH t12_4 [.val .sta, r1, r2, r3, .val (.tup [.int P, .int Q]), .val (.lst L), r6, .val (.tup [.int a, .int b]), .val (.int t)]) := by
  have i1 := (ix2 (a := .int P) (b := .int Q)).1
  have i2 := (ix2 (a := .int P) (b := .int Q)).2
  have key : ∀ j : Int, ∃ x y : Int, k 10 [.int (max 0 (P * t + j)), .int (Q * t)] = .ret (.tup [.int x, .int y]) := fun j => ⟨_, _, e10 _ _ (by omega) q1 q2⟩
  unfold t12_4
  simp only [e_non, e_bl, e_int, e_str, e_var, e_con, e_bin, e_neg, e_cmp, e_chain, e_and, e_or, e_not, e_ite, e_tup, e_lst, e_idx, e_slc, e_call, e_callK, e_blt, e_isk, e_caught, e_isx, e_op0, e_op1, e_callM, b_op1, b_callM, i_callK, i_op1, o_emp, o_revT, b_var, b_cmp, b_chain, b_and, b_or, b_not, b_yes, b_call, b_callK, b_blt, b_isx, b_isk, a_nil, a_cons, r_nil, r_cons, o_nopart, o_part, i_rng1, i_rng2, i_zip, i_enum, i_cap, i_var, i_blt, i_call, i_tup, i_lst, i_idx, i_slc, q_add, q_sub, q_neg, q_lt, q_le, q_gt, q_ge, q_eqI, q_neI, q_isNN, q_isNT, q_isNI, q_isNL, q_isBB, q_isNB, q_isNS, q_isnNN, q_isnNT, q_isnNI, q_isnNL, q_andT, q_andF, q_orT, q_orF, q_not, q_toB, q_part, q_fzI, q_fzB, q_fzS, q_fzN, q_fzT, q_fzL, q_fzW, q_fzSt, q_fzSc, s_nil, s_cons, k_nx, k_rt, k_bk, k_ct, s_asg, s_asgF, s_asgT, k_asg, s_par, s_expr, s_iff, s_retN, s_raise, s_brk, s_cont, s_pass, s_frz, k_frzO, k_frzV, s_retV, k_retO, k_retV, s_ret_non, s_ret_bl, s_ret_int, s_ret_str, s_ret_con, s_ret_bin, s_ret_neg, s_ret_cmp, s_ret_chain, s_ret_and, s_ret_or, s_ret_not, s_ret_ite, s_ret_tup, s_ret_lst, s_ret_idx, s_ret_slc, s_ret_call, s_ret_callK, s_ret_op0, s_ret_op1, s_ret_callM, s_ret_blt, s_ret_isx, s_ret_isk, s_ret_comp, s_app, k_runR, k_runN, for_nil, k_forN, k_forC, k_forB, k_forR, g_nm, g_tp, o_some, noErr_ret, Yes, retK, ret_bind, err_bind, bad_bind, draw_bind, getV, slOf, slO, setAll, parT, List.length_cons, List.length_nil, List.map_cons, List.map_nil, List.getElem?_cons_zero, List.getElem?_cons_succ, List.set_cons_zero, List.set_cons_succ, List.cons_append, List.nil_append, List.replicate_succ, List.replicate_zero, i1, i2, m1, lt2, bind_assoc']
  refine yes_then e6 (fun d hd => ?_)
  obtain ⟨j, rfl⟩ : ∃ j, d = .int j := by
    simp only [List.mem_cons, List.not_mem_nil, or_false] at hd
    rcases hd with rfl | rfl <;> exact ⟨_, rfl⟩
  obtain ⟨x, y, e⟩ := key j
  simp only [e_non, e_bl, e_int, e_str, e_var, e_con, e_bin, e_neg, e_cmp, e_chain, e_and, e_or, e_not, e_ite, e_tup, e_lst, e_idx, e_slc, e_call, e_callK, e_blt, e_isk, e_caught, e_isx, e_op0, e_op1, e_callM, b_op1, b_callM, i_callK, i_op1, o_emp, o_revT, b_var, b_cmp, b_chain, b_and, b_or, b_not, b_yes, b_call, b_callK, b_blt, b_isx, b_isk, a_nil, a_cons, r_nil, r_cons, o_nopart, o_part, i_rng1, i_rng2, i_zip, i_enum, i_cap, i_var, i_blt, i_call, i_tup, i_lst, i_idx, i_slc, q_add, q_sub, q_neg, q_lt, q_le, q_gt, q_ge, q_eqI, q_neI, q_isNN, q_isNT, q_isNI, q_isNL, q_isBB, q_isNB, q_isNS, q_isnNN, q_isnNT, q_isnNI, q_isnNL, q_andT, q_andF, q_orT, q_orF, q_not, q_toB, q_part, q_fzI, q_fzB, q_fzS, q_fzN, q_fzT, q_fzL, q_fzW, q_fzSt, q_fzSc, s_nil, s_cons, k_nx, k_rt, k_bk, k_ct, s_asg, s_asgF, s_asgT, k_asg, s_par, s_expr, s_iff, s_retN, s_raise, s_brk, s_cont, s_pass, s_frz, k_frzO, k_frzV, s_retV, k_retO, k_retV, s_ret_non, s_ret_bl, s_ret_int, s_ret_str, s_ret_con, s_ret_bin, s_ret_neg, s_ret_cmp, s_ret_chain, s_ret_and, s_ret_or, s_ret_not, s_ret_ite, s_ret_tup, s_ret_lst, s_ret_idx, s_ret_slc, s_ret_call, s_ret_callK, s_ret_op0, s_ret_op1, s_ret_callM, s_ret_blt, s_ret_isx, s_ret_isk, s_ret_comp, s_app, k_runR, k_runN, for_nil, k_forN, k_forC, k_forB, k_forR, g_nm, g_tp, o_some, noErr_ret, Yes, retK, ret_bind, err_bind, bad_bind, draw_bind, getV, slOf, slO, setAll, parT, List.length_cons, List.length_nil, List.map_cons, List.map_nil, List.getElem?_cons_zero, List.getElem?_cons_succ, List.set_cons_zero, List.set_cons_succ, List.cons_append, List.nil_append, List.replicate_succ, List.replicate_zero, max_int, i2, m2, e]
  exact H x y
theorem s12_5 {r1 r2 r3 : Sl} {own close more x8 : D} (fo : fz own = .ret own) (fc : fz close = .ret close) (fm : fz more = .ret more) (hk : ∀ d ∈ all12 own close more, Ck d)
    (e6 : Yes (fun d => d ∈ all12 own close more) (k 6 [.sta, .lst (all12 own close more)])) :
    Yes (fun fl => ∃ d, Ck d ∧ fl = .rt d) (ex k WH t12_5 [.val .sta, r1, r2, r3, .val own, .val (.lst some12), .val close, .val more, .val x8]) := by
  have e := e12_5 (k := k) (r1 := r1) (r2 := r2) (r3 := r3) (x8 := x8) fo fc fm
  unfold t12_5
  simp only [s_cons, s_ret_call, e, bind_assoc']
  refine yes_then e6 (fun d hd => ?_)
  have c := hk d hd
  rw [retK_kd c.kd]
  exact yes_ret ⟨d, c, rfl⟩
theorem ckAll {P Q a b a' b' : Int} : ∀ d ∈ all12 (.tup [.int P, .int Q]) (.tup [.int a, .int b]) (.tup [.int a', .int b']), Ck d := by
  intro d hd
  simp only [all12, some12, List.cons_append, List.nil_append, List.mem_cons, List.not_mem_nil, or_false] at hd
  rcases hd with rfl | rfl | rfl | rfl | rfl | rfl | rfl | rfl | rfl | rfl | rfl | rfl | rfl | rfl | rfl | rfl | rfl | rfl | rfl | rfl | rfl | rfl | rfl | rfl | rfl | rfl | rfl | rfl | rfl | rfl | rfl | rfl | rfl | rfl <;> constructor
end
theorem f12 {n : Nat} {C W : Int} (c1 : C ≤ 1000) (w1 : 1 ≤ W) (w2 : W ≤ C) : Yes Ck (callF tab WH (n + 4) 12 [.sta, .int C, .int W]) := by
  refine Yes.of_eq (u := runD (callF tab WH (n + 3)) WH d12 [.sta, .int C, .int W]) rfl ?_
  rw [run_eq rfl, body12]
  generalize hc : callF tab WH (n + 3) = k
  have e10 : ∀ a b : Int, 0 ≤ a → 1 ≤ b → b < 2 ^ 192 → k 10 [.int a, .int b] = .ret (lowD a b) := fun a b h1 h2 h3 => f10c (n := n + 2) hc.symm h1 h2 h3
  have e0 := drc (m := n + 1) hc.symm (k := min C 30 + 1) (by omega) (by omega)
  have st : startE d12.N [.sta, .int C, .int W] = [.val .sta, .val (.int C), .val (.int W), .un, .un, .un, .un, .un, .un] := rfl
  rw [st]
  refine yes_then (P := fun fl => ∃ d, Ck d ∧ fl = .rt d) ?_ (fun fl h => ?_)
  · rw [s12_0 e0]
    refine yes_draw fun S s0 s1 => ?_
    have q1 := chI_pos (i := C) (j := S) s0 (by omega)
    have q2 := chI_1000 (i := C) (j := S) c1 (by omega)
    have p1 := chI_nn (i := C - W) (j := S)
    have e9a := f9c (n := n + 2) hc.symm (c := C - W) (s := S) (by omega) (by omega) s0 (by omega)
    have e9b := f9c (n := n + 2) hc.symm (c := C) (s := S) (by omega) (by omega) s0 (by omega)
    have eo := e10 _ _ p1 q1 q2
    have lp := low_pos p1 q1
    have lq : chI C S / gz (chI (C - W) S) (chI C S) ≤ chI C S := Int.ediv_le_self _ (by omega)
    unfold lowD at eo
    generalize chI C S / gz (chI (C - W) S) (chI C S) = Q at *
    generalize chI (C - W) S / gz (chI (C - W) S) (chI C S) = P at *
    have hq : Q < 2 ^ 200 := by omega
    have t1 : 100000000000000000 / Q ≤ 100000000000000000 := Int.ediv_le_self _ (by decide)
    have t2 : Q * (100000000000000000 / Q) ≤ 100000000000000000 := Int.mul_ediv_self_le (by omega)
    have qt : Q * max 1 (100000000000000000 / Q) < 2 ^ 192 := by
      rcases Int.le_total 1 (100000000000000000 / Q) with h | h
      · rw [Int.max_eq_right h]
        omega
      · rw [Int.max_eq_left h]
        omega
    have qt1 : 1 ≤ Q * max 1 (100000000000000000 / Q) := by
      have := Int.mul_le_mul lp.2 (show 1 ≤ max 1 (100000000000000000 / Q) by omega) (by omega) (by omega)
      omega
    have hd := q_fdivW (i := 100000000000000000) (j := Q) (by omega) hq
    generalize 100000000000000000 / Q = T1 at *
    have tt : 1 ≤ max 1 T1 ∧ max 1 T1 ≤ 100000000000000000 := by omega
    rw [s12_1 e9a e9b eo, s12_2]
    refine s12_3 (drc (m := n + 1) hc.symm (by decide) (by decide)) (drc (m := n + 1) hc.symm (by decide) (by decide)) e10 hd (fun a b => ?_)
    generalize max 1 T1 = t at *
    refine s12_4 (f6c (n := n) hc.symm (by decide) (by decide) (by decide)) e10 (q_mulR (by omega) (by omega)) (q_mulR (by omega) (by omega)) qt1 qt (fun a' b' => ?_)
    exact s12_5 rfl rfl rfl ckAll (f6c (n := n) hc.symm (by show 0 < 34; decide) (by show 34 < 1000; decide) (fun d hd => (ckAll d hd).kd))
  · obtain ⟨d, hd, rfl⟩ := h
    exact yes_ret hd
end LW
end
section
set_option maxHeartbeats 1000000
namespace LW
open PySem PV
theorem yes_for {α : Type} {set : D → PV.Env → T PV.Env} {body : PV.Env → T Fl} {g : α → D} {Inv : List α → PV.Env → Prop} {V : D → Prop} (l : List α) (h : ∀ x l' r, Inv (x :: l') r → ∃ r1, set (g x) r = .ret r1 ∧ Yes (goP (Inv l') V) (body r1)) (r : PV.Env) (hr : Inv l r) : Yes (goP (Inv []) V) (forL set body (l.map g) r) :=
  ⟨for_all l (fun x l' r q => let ⟨r1, e, y⟩ := h x l' r q; ⟨r1, e, y.all⟩) r hr⟩
def b15 : S := (.cons (.iff (.not (.call 15 (.cons (.var 7) (.cons (.var 8) (.cons (.var 9) .nil))))) (.cons (.ret (.bl false)) .nil) .nil) .nil)
def b14 : S := (.cons (.iff (.not (.call 14 (.cons (.var 7) (.cons (.var 8) (.cons (.var 10) .nil))))) (.cons (.ret (.bl false)) .nil) .nil) .nil)
def u_5 : S := .cons (.iff (.cmp .le (.var 4) (.var 3)) (.cons (.asgF 10 (.call 12 (.cons (.var 1) (.cons (.var 3) (.cons (.var 4) .nil))))) (.cons (.for_ (.tp [7, 8]) (.lst (.cons (.tup (.cons (.var 3) (.cons (.var 4) .nil))) (.cons (.tup (.cons (.var 6) (.cons (.var 6) .nil))) (.cons (.tup (.cons (.var 3) (.cons (.var 6) .nil))) .nil)))) (.cons (.iff (.not (.call 14 (.cons (.var 7) (.cons (.var 8) (.cons (.var 10) .nil))))) (.cons (.ret (.bl false)) .nil) .nil) .nil)) .nil)) .nil) .nil
def u_4 : S := .cons (.for_ (.tp [7, 8, 9]) (.lst (.cons (.tup (.cons (.var 3) (.cons (.var 4) (.cons (.var 5) .nil)))) (.cons (.tup (.cons (.var 6) (.cons (.var 4) (.cons (.var 6) .nil)))) (.cons (.tup (.cons (.var 3) (.cons (.var 6) (.cons (.var 6) .nil)))) (.cons (.tup (.cons (.var 3) (.cons (.var 4) (.cons (.var 6) .nil)))) .nil))))) (.cons (.iff (.not (.call 15 (.cons (.var 7) (.cons (.var 8) (.cons (.var 9) .nil))))) (.cons (.ret (.bl false)) .nil) .nil) .nil)) u_5
def u_3 : S := .cons (.asgF 6 (.call 6 (.cons (.var 1) (.cons (.lst (.cons (.int 0) (.cons (.bin .sub (.int 0) (.int 1)) (.cons (.int 61) (.cons (.int 1001) (.cons (.bin .add (.var 3) (.int 1)) (.cons (.bl true) (.cons .non (.cons (.str "1") (.cons (.tup (.cons (.int 1) .nil)) (.cons (.bin .pow (.int 10) (.int 18)) .nil))))))))))) .nil)))) u_4
def u_2 : S := .cons (.asgF 5 (.call 0 (.cons (.var 1) (.cons (.bin .add (.var 3) (.int 1)) .nil)))) u_3
def u_1 : S := .cons (.asgF 4 (.bin .add (.int 1) (.call 0 (.cons (.var 1) (.cons (.call 6 (.cons (.var 1) (.cons (.lst (.cons (.int 1) (.cons (.int 3) (.cons (.var 3) (.cons (.var 3) .nil))))) .nil))) .nil))))) u_2
def u_0 : S := .cons (.asgF 3 (.call 6 (.cons (.var 1) (.cons (.lst (.cons (.bin .add (.int 1) (.call 0 (.cons (.var 1) (.cons (.int 7) .nil)))) (.cons (.bin .add (.int 1) (.call 0 (.cons (.var 1) (.cons (.int 60) .nil)))) (.cons (.int 60) (.cons (.bin .add (.int 1) (.call 0 (.cons (.var 1) (.cons (.int 1000) .nil)))) (.cons (.int 1000) .nil)))))) .nil)))) u_1
def tL_1 : S := .cons (.ret (.bl true)) .nil
def tL_0 : S := .cons (.for_ (.nm 2) (.rng1 (.int 4)) (.cons (.asgF 3 (.call 6 (.cons (.var 1) (.cons (.lst (.cons (.bin .add (.int 1) (.call 0 (.cons (.var 1) (.cons (.int 7) .nil)))) (.cons (.bin .add (.int 1) (.call 0 (.cons (.var 1) (.cons (.int 60) .nil)))) (.cons (.int 60) (.cons (.bin .add (.int 1) (.call 0 (.cons (.var 1) (.cons (.int 1000) .nil)))) (.cons (.int 1000) .nil)))))) .nil)))) (.cons (.asgF 4 (.bin .add (.int 1) (.call 0 (.cons (.var 1) (.cons (.call 6 (.cons (.var 1) (.cons (.lst (.cons (.int 1) (.cons (.int 3) (.cons (.var 3) (.cons (.var 3) .nil))))) .nil))) .nil))))) (.cons (.asgF 5 (.call 0 (.cons (.var 1) (.cons (.bin .add (.var 3) (.int 1)) .nil)))) (.cons (.asgF 6 (.call 6 (.cons (.var 1) (.cons (.lst (.cons (.int 0) (.cons (.bin .sub (.int 0) (.int 1)) (.cons (.int 61) (.cons (.int 1001) (.cons (.bin .add (.var 3) (.int 1)) (.cons (.bl true) (.cons .non (.cons (.str "1") (.cons (.tup (.cons (.int 1) .nil)) (.cons (.bin .pow (.int 10) (.int 18)) .nil))))))))))) .nil)))) (.cons (.for_ (.tp [7, 8, 9]) (.lst (.cons (.tup (.cons (.var 3) (.cons (.var 4) (.cons (.var 5) .nil)))) (.cons (.tup (.cons (.var 6) (.cons (.var 4) (.cons (.var 6) .nil)))) (.cons (.tup (.cons (.var 3) (.cons (.var 6) (.cons (.var 6) .nil)))) (.cons (.tup (.cons (.var 3) (.cons (.var 4) (.cons (.var 6) .nil)))) .nil))))) (.cons (.iff (.not (.call 15 (.cons (.var 7) (.cons (.var 8) (.cons (.var 9) .nil))))) (.cons (.ret (.bl false)) .nil) .nil) .nil)) (.cons (.iff (.cmp .le (.var 4) (.var 3)) (.cons (.asgF 10 (.call 12 (.cons (.var 1) (.cons (.var 3) (.cons (.var 4) .nil))))) (.cons (.for_ (.tp [7, 8]) (.lst (.cons (.tup (.cons (.var 3) (.cons (.var 4) .nil))) (.cons (.tup (.cons (.var 6) (.cons (.var 6) .nil))) (.cons (.tup (.cons (.var 3) (.cons (.var 6) .nil))) .nil)))) (.cons (.iff (.not (.call 14 (.cons (.var 7) (.cons (.var 8) (.cons (.var 10) .nil))))) (.cons (.ret (.bl false)) .nil) .nil) .nil)) .nil)) .nil) .nil))))))) tL_1
theorem bodyL : dL.body = tL_0 := rfl
section
variable {k : Nat → List D → T D} {r0 r1 r2 r3 r4 r5 r6 r7 r8 r9 r10 : Sl}
theorem step15 {a b c : D} (fa : fz a = .ret a) (fb : fz b = .ret b) (fc : fz c = .ret c) (e : k 15 [a, b, c] = .ret (.bl true)) : ex k WH b15 [r0, r1, r2, r3, r4, r5, r6, .val a, .val b, .val c, r10] = .ret (.nx [r0, r1, r2, r3, r4, r5, r6, .val a, .val b, .val c, r10]) := by
  unfold b15
  simp only [e_non, e_bl, e_int, e_str, e_var, e_con, e_bin, e_neg, e_cmp, e_chain, e_and, e_or, e_not, e_ite, e_tup, e_lst, e_idx, e_slc, e_call, e_callK, e_blt, e_isk, e_caught, e_isx, e_op0, e_op1, e_callM, b_op1, b_callM, i_callK, i_op1, o_emp, o_revT, b_var, b_cmp, b_chain, b_and, b_or, b_not, b_yes, b_call, b_callK, b_blt, b_isx, b_isk, a_nil, a_cons, r_nil, r_cons, o_nopart, o_part, i_rng1, i_rng2, i_zip, i_enum, i_cap, i_var, i_blt, i_call, i_tup, i_lst, i_idx, i_slc, q_add, q_sub, q_neg, q_lt, q_le, q_gt, q_ge, q_eqI, q_neI, q_isNN, q_isNT, q_isNI, q_isNL, q_isBB, q_isNB, q_isNS, q_isnNN, q_isnNT, q_isnNI, q_isnNL, q_andT, q_andF, q_orT, q_orF, q_not, q_toB, q_part, q_fzI, q_fzB, q_fzS, q_fzN, q_fzT, q_fzL, q_fzW, q_fzSt, q_fzSc, s_nil, s_cons, k_nx, k_rt, k_bk, k_ct, s_asg, s_asgF, s_asgT, k_asg, s_par, s_expr, s_iff, s_retN, s_raise, s_brk, s_cont, s_pass, s_frz, k_frzO, k_frzV, s_retV, k_retO, k_retV, s_ret_non, s_ret_bl, s_ret_int, s_ret_str, s_ret_con, s_ret_bin, s_ret_neg, s_ret_cmp, s_ret_chain, s_ret_and, s_ret_or, s_ret_not, s_ret_ite, s_ret_tup, s_ret_lst, s_ret_idx, s_ret_slc, s_ret_call, s_ret_callK, s_ret_op0, s_ret_op1, s_ret_callM, s_ret_blt, s_ret_isx, s_ret_isk, s_ret_comp, s_app, k_runR, k_runN, for_nil, k_forN, k_forC, k_forB, k_forR, g_nm, g_tp, o_some, noErr_ret, Yes, retK, ret_bind, err_bind, bad_bind, draw_bind, getV, slOf, slO, setAll, parT, List.length_cons, List.length_nil, List.map_cons, List.map_nil, List.getElem?_cons_zero, List.getElem?_cons_succ, List.set_cons_zero, List.set_cons_succ, List.cons_append, List.nil_append, List.replicate_succ, List.replicate_zero, fa, fb, fc, e, Bool.not_true, Bool.false_eq_true, if_false]
theorem step14 {a b c : D} (fa : fz a = .ret a) (fb : fz b = .ret b) (fc : fz c = .ret c) (e : k 14 [a, b, c] = .ret (.bl true)) : ex k WH b14 [r0, r1, r2, r3, r4, r5, r6, .val a, .val b, r9, .val c] = .ret (.nx [r0, r1, r2, r3, r4, r5, r6, .val a, .val b, r9, .val c]) := by
  unfold b14
  simp only [e_non, e_bl, e_int, e_str, e_var, e_con, e_bin, e_neg, e_cmp, e_chain, e_and, e_or, e_not, e_ite, e_tup, e_lst, e_idx, e_slc, e_call, e_callK, e_blt, e_isk, e_caught, e_isx, e_op0, e_op1, e_callM, b_op1, b_callM, i_callK, i_op1, o_emp, o_revT, b_var, b_cmp, b_chain, b_and, b_or, b_not, b_yes, b_call, b_callK, b_blt, b_isx, b_isk, a_nil, a_cons, r_nil, r_cons, o_nopart, o_part, i_rng1, i_rng2, i_zip, i_enum, i_cap, i_var, i_blt, i_call, i_tup, i_lst, i_idx, i_slc, q_add, q_sub, q_neg, q_lt, q_le, q_gt, q_ge, q_eqI, q_neI, q_isNN, q_isNT, q_isNI, q_isNL, q_isBB, q_isNB, q_isNS, q_isnNN, q_isnNT, q_isnNI, q_isnNL, q_andT, q_andF, q_orT, q_orF, q_not, q_toB, q_part, q_fzI, q_fzB, q_fzS, q_fzN, q_fzT, q_fzL, q_fzW, q_fzSt, q_fzSc, s_nil, s_cons, k_nx, k_rt, k_bk, k_ct, s_asg, s_asgF, s_asgT, k_asg, s_par, s_expr, s_iff, s_retN, s_raise, s_brk, s_cont, s_pass, s_frz, k_frzO, k_frzV, s_retV, k_retO, k_retV, s_ret_non, s_ret_bl, s_ret_int, s_ret_str, s_ret_con, s_ret_bin, s_ret_neg, s_ret_cmp, s_ret_chain, s_ret_and, s_ret_or, s_ret_not, s_ret_ite, s_ret_tup, s_ret_lst, s_ret_idx, s_ret_slc, s_ret_call, s_ret_callK, s_ret_op0, s_ret_op1, s_ret_callM, s_ret_blt, s_ret_isx, s_ret_isk, s_ret_comp, s_app, k_runR, k_runN, for_nil, k_forN, k_forC, k_forB, k_forR, g_nm, g_tp, o_some, noErr_ret, Yes, retK, ret_bind, err_bind, bad_bind, draw_bind, getV, slOf, slO, setAll, parT, List.length_cons, List.length_nil, List.map_cons, List.map_nil, List.getElem?_cons_zero, List.getElem?_cons_succ, List.set_cons_zero, List.set_cons_succ, List.cons_append, List.nil_append, List.replicate_succ, List.replicate_zero, fa, fb, fc, e, Bool.not_true, Bool.false_eq_true, if_false]
theorem set3 {a b c : D} : bindTg (.tp [7, 8, 9]) (.tup [a, b, c]) [r0, r1, r2, r3, r4, r5, r6, r7, r8, r9, r10] = .ret [r0, r1, r2, r3, r4, r5, r6, .val a, .val b, .val c, r10] := rfl
theorem set2 {a b : D} : bindTg (.tp [7, 8]) (.tup [a, b]) [r0, r1, r2, r3, r4, r5, r6, r7, r8, r9, r10] = .ret [r0, r1, r2, r3, r4, r5, r6, .val a, .val b, r9, r10] := rfl
theorem loop15 (e : ∀ a b c, kd a = true → kd b = true → kd c = true → k 15 [a, b, c] = .ret (.bl true)) : ∀ (l : List (D × D × D)), (∀ x ∈ l, kd x.1 = true ∧ kd x.2.1 = true ∧ kd x.2.2 = true) → ∀ r7 r8 r9, ∃ y7 y8 y9, forL (bindTg (.tp [7, 8, 9])) (ex k WH b15) (l.map fun x => .tup [x.1, x.2.1, x.2.2]) [r0, r1, r2, r3, r4, r5, r6, r7, r8, r9, r10] = .ret (.nx [r0, r1, r2, r3, r4, r5, r6, y7, y8, y9, r10])
  | [], _, r7, r8, r9 => ⟨r7, r8, r9, rfl⟩
  | x :: l, h, r7, r8, r9 => by
    obtain ⟨h1, h2, h3⟩ := h x List.mem_cons_self
    obtain ⟨y7, y8, y9, q⟩ := loop15 e l (fun z hz => h z (List.mem_cons_of_mem _ hz)) (.val x.1) (.val x.2.1) (.val x.2.2)
    refine ⟨y7, y8, y9, ?_⟩
    rw [List.map_cons, for_cons, set3, ret_bind, step15 (kd_fz h1) (kd_fz h2) (kd_fz h3) (e _ _ _ h1 h2 h3), ret_bind, k_forN, q]
theorem loop14 {v : D} (hv : kd v = true) (e : ∀ a b, kd a = true → kd b = true → k 14 [a, b, v] = .ret (.bl true)) : ∀ (l : List (D × D)), (∀ x ∈ l, kd x.1 = true ∧ kd x.2 = true) → ∀ r7 r8, ∃ y7 y8, forL (bindTg (.tp [7, 8])) (ex k WH b14) (l.map fun x => .tup [x.1, x.2]) [r0, r1, r2, r3, r4, r5, r6, r7, r8, r9, .val v] = .ret (.nx [r0, r1, r2, r3, r4, r5, r6, y7, y8, r9, .val v])
  | [], _, r7, r8 => ⟨r7, r8, rfl⟩
  | x :: l, h, r7, r8 => by
    obtain ⟨h1, h2⟩ := h x List.mem_cons_self
    obtain ⟨y7, y8, q⟩ := loop14 hv e l (fun z hz => h z (List.mem_cons_of_mem _ hz)) (.val x.1) (.val x.2)
    refine ⟨y7, y8, ?_⟩
    rw [List.map_cons, for_cons, set2, ret_bind, step14 (kd_fz h1) (kd_fz h2) (kd_fz hv) (e _ _ h1 h2), ret_bind, k_forN, q]
theorem lt5 {a b c d e : D} : lenT [a, b, c, d, e] (.new [a, b, c, d, e]) = .ret (.new [a, b, c, d, e]) := rfl
theorem lt4 {a b c d : D} : lenT [a, b, c, d] (.new [a, b, c, d]) = .ret (.new [a, b, c, d]) := rfl
theorem lt10 {a b c d e f g h i j : D} : lenT [a, b, c, d, e, f, g, h, i, j] (.new [a, b, c, d, e, f, g, h, i, j]) = .ret (.new [a, b, c, d, e, f, g, h, i, j]) := rfl
theorem t1 {a : D} : lenT [a] (.tup [a]) = .ret (.tup [a]) := rfl
def Inv (ns : List Int) (r : PV.Env) : Prop := ∃ x2 x3 x4 x5 x6 x7 x8 x9 x10, r = [.val (.scr ns), .val .sta, x2, x3, x4, x5, x6, x7, x8, x9, x10]
theorem w5 {ns : List Int} {C W S : Int} {o : D} (ho : kd o = true) (e14 : ∀ a b v, kd a = true → kd b = true → Ck v → k 14 [a, b, v] = .ret (.bl true)) (e12 : W ≤ C → Yes Ck (k 12 [.sta, .int C, .int W])) : Yes (goP (Inv ns) fun _ => False) (ex k WH u_5 [.val (.scr ns), .val .sta, r2, .val (.int C), .val (.int W), .val (.int S), .val o, r7, r8, r9, r10]) := by
  have fo := kd_fz ho
  unfold u_5
  by_cases h : W ≤ C
  · have e12 := e12 h
    simp only [e_non, e_bl, e_int, e_str, e_var, e_con, e_bin, e_neg, e_cmp, e_chain, e_and, e_or, e_not, e_ite, e_tup, e_lst, e_idx, e_slc, e_call, e_callK, e_blt, e_isk, e_caught, e_isx, e_op0, e_op1, e_callM, b_op1, b_callM, i_callK, i_op1, o_emp, o_revT, b_var, b_cmp, b_chain, b_and, b_or, b_not, b_yes, b_call, b_callK, b_blt, b_isx, b_isk, a_nil, a_cons, r_nil, r_cons, o_nopart, o_part, i_rng1, i_rng2, i_zip, i_enum, i_cap, i_var, i_blt, i_call, i_tup, i_lst, i_idx, i_slc, q_add, q_sub, q_neg, q_lt, q_le, q_gt, q_ge, q_eqI, q_neI, q_isNN, q_isNT, q_isNI, q_isNL, q_isBB, q_isNB, q_isNS, q_isnNN, q_isnNT, q_isnNI, q_isnNL, q_andT, q_andF, q_orT, q_orF, q_not, q_toB, q_part, q_fzI, q_fzB, q_fzS, q_fzN, q_fzT, q_fzL, q_fzW, q_fzSt, q_fzSc, s_nil, s_cons, k_nx, k_rt, k_bk, k_ct, s_asg, s_asgF, s_asgT, k_asg, s_par, s_expr, s_iff, s_retN, s_raise, s_brk, s_cont, s_pass, s_frz, k_frzO, k_frzV, s_retV, k_retO, k_retV, s_ret_non, s_ret_bl, s_ret_int, s_ret_str, s_ret_con, s_ret_bin, s_ret_neg, s_ret_cmp, s_ret_chain, s_ret_and, s_ret_or, s_ret_not, s_ret_ite, s_ret_tup, s_ret_lst, s_ret_idx, s_ret_slc, s_ret_call, s_ret_callK, s_ret_op0, s_ret_op1, s_ret_callM, s_ret_blt, s_ret_isx, s_ret_isk, s_ret_comp, s_app, k_runR, k_runN, for_nil, k_forN, k_forC, k_forB, k_forR, g_nm, g_tp, o_some, noErr_ret, Yes, retK, ret_bind, err_bind, bad_bind, draw_bind, getV, slOf, slO, setAll, parT, List.length_cons, List.length_nil, List.map_cons, List.map_nil, List.getElem?_cons_zero, List.getElem?_cons_succ, List.set_cons_zero, List.set_cons_succ, List.cons_append, List.nil_append, List.replicate_succ, List.replicate_zero, h, decide_true, if_true, bind_assoc']
    refine yes_then e12 (fun v hv => ?_)
    have fv := kd_fz hv.kd
    obtain ⟨y7, y8, q⟩ := loop14 (k := k) (r0 := .val (.scr ns)) (r1 := .val .sta) (r2 := r2) (r3 := .val (.int C)) (r4 := .val (.int W)) (r5 := .val (.int S)) (r6 := .val o) (r9 := r9) (v := v) hv.kd (fun a b ha hb => e14 a b v ha hb hv) [(.int C, .int W), (o, o), (.int C, o)] (by
      intro x hx
      simp only [List.mem_cons, List.not_mem_nil, or_false] at hx
      rcases hx with rfl | rfl | rfl
      · exact ⟨rfl, rfl⟩
      · exact ⟨ho, ho⟩
      · exact ⟨rfl, ho⟩) r7 r8
    simp only [List.map_cons, List.map_nil] at q
    unfold b14 at q
    have fr : ∀ a b c : D, frozen (.new [a, b, c]) = some [a, b, c] := fun _ _ _ => rfl
    simp only [e_non, e_bl, e_int, e_str, e_var, e_con, e_bin, e_neg, e_cmp, e_chain, e_and, e_or, e_not, e_ite, e_tup, e_lst, e_idx, e_slc, e_call, e_callK, e_blt, e_isk, e_caught, e_isx, e_op0, e_op1, e_callM, b_op1, b_callM, i_callK, i_op1, o_emp, o_revT, b_var, b_cmp, b_chain, b_and, b_or, b_not, b_yes, b_call, b_callK, b_blt, b_isx, b_isk, a_nil, a_cons, r_nil, r_cons, o_nopart, o_part, i_rng1, i_rng2, i_zip, i_enum, i_cap, i_var, i_blt, i_call, i_tup, i_lst, i_idx, i_slc, q_add, q_sub, q_neg, q_lt, q_le, q_gt, q_ge, q_eqI, q_neI, q_isNN, q_isNT, q_isNI, q_isNL, q_isBB, q_isNB, q_isNS, q_isnNN, q_isnNT, q_isnNI, q_isnNL, q_andT, q_andF, q_orT, q_orF, q_not, q_toB, q_part, q_fzI, q_fzB, q_fzS, q_fzN, q_fzT, q_fzL, q_fzW, q_fzSt, q_fzSc, s_nil, s_cons, k_nx, k_rt, k_bk, k_ct, s_asg, s_asgF, s_asgT, k_asg, s_par, s_expr, s_iff, s_retN, s_raise, s_brk, s_cont, s_pass, s_frz, k_frzO, k_frzV, s_retV, k_retO, k_retV, s_ret_non, s_ret_bl, s_ret_int, s_ret_str, s_ret_con, s_ret_bin, s_ret_neg, s_ret_cmp, s_ret_chain, s_ret_and, s_ret_or, s_ret_not, s_ret_ite, s_ret_tup, s_ret_lst, s_ret_idx, s_ret_slc, s_ret_call, s_ret_callK, s_ret_op0, s_ret_op1, s_ret_callM, s_ret_blt, s_ret_isx, s_ret_isk, s_ret_comp, s_app, k_runR, k_runN, for_nil, k_forN, k_forC, k_forB, k_forR, g_nm, g_tp, o_some, noErr_ret, Yes, retK, ret_bind, err_bind, bad_bind, draw_bind, getV, slOf, slO, setAll, parT, List.length_cons, List.length_nil, List.map_cons, List.map_nil, List.getElem?_cons_zero, List.getElem?_cons_succ, List.set_cons_zero, List.set_cons_succ, List.cons_append, List.nil_append, List.replicate_succ, List.replicate_zero, fv, fo, s_for, t2, lt3, fr, q]
    exact yes_ret ⟨_, _, _, _, _, _, _, _, _, rfl⟩
  · simp only [e_non, e_bl, e_int, e_str, e_var, e_con, e_bin, e_neg, e_cmp, e_chain, e_and, e_or, e_not, e_ite, e_tup, e_lst, e_idx, e_slc, e_call, e_callK, e_blt, e_isk, e_caught, e_isx, e_op0, e_op1, e_callM, b_op1, b_callM, i_callK, i_op1, o_emp, o_revT, b_var, b_cmp, b_chain, b_and, b_or, b_not, b_yes, b_call, b_callK, b_blt, b_isx, b_isk, a_nil, a_cons, r_nil, r_cons, o_nopart, o_part, i_rng1, i_rng2, i_zip, i_enum, i_cap, i_var, i_blt, i_call, i_tup, i_lst, i_idx, i_slc, q_add, q_sub, q_neg, q_lt, q_le, q_gt, q_ge, q_eqI, q_neI, q_isNN, q_isNT, q_isNI, q_isNL, q_isBB, q_isNB, q_isNS, q_isnNN, q_isnNT, q_isnNI, q_isnNL, q_andT, q_andF, q_orT, q_orF, q_not, q_toB, q_part, q_fzI, q_fzB, q_fzS, q_fzN, q_fzT, q_fzL, q_fzW, q_fzSt, q_fzSc, s_nil, s_cons, k_nx, k_rt, k_bk, k_ct, s_asg, s_asgF, s_asgT, k_asg, s_par, s_expr, s_iff, s_retN, s_raise, s_brk, s_cont, s_pass, s_frz, k_frzO, k_frzV, s_retV, k_retO, k_retV, s_ret_non, s_ret_bl, s_ret_int, s_ret_str, s_ret_con, s_ret_bin, s_ret_neg, s_ret_cmp, s_ret_chain, s_ret_and, s_ret_or, s_ret_not, s_ret_ite, s_ret_tup, s_ret_lst, s_ret_idx, s_ret_slc, s_ret_call, s_ret_callK, s_ret_op0, s_ret_op1, s_ret_callM, s_ret_blt, s_ret_isx, s_ret_isk, s_ret_comp, s_app, k_runR, k_runN, for_nil, k_forN, k_forC, k_forB, k_forR, g_nm, g_tp, o_some, noErr_ret, Yes, retK, ret_bind, err_bind, bad_bind, draw_bind, getV, slOf, slO, setAll, parT, List.length_cons, List.length_nil, List.map_cons, List.map_nil, List.getElem?_cons_zero, List.getElem?_cons_succ, List.set_cons_zero, List.set_cons_succ, List.cons_append, List.nil_append, List.replicate_succ, List.replicate_zero, h, decide_false, Bool.false_eq_true, if_false]
    exact yes_ret ⟨_, _, _, _, _, _, _, _, _, rfl⟩
theorem w4 {ns : List Int} {C W S : Int} {o : D} (ho : kd o = true) (e15 : ∀ a b c, kd a = true → kd b = true → kd c = true → k 15 [a, b, c] = .ret (.bl true)) (H : ∀ r7 r8 r9 r10, Yes (goP (Inv ns) fun _ => False) (ex k WH u_5 [.val (.scr ns), .val .sta, r2, .val (.int C), .val (.int W), .val (.int S), .val o, r7, r8, r9, r10])) : Yes (goP (Inv ns) fun _ => False) (ex k WH u_4 [.val (.scr ns), .val .sta, r2, .val (.int C), .val (.int W), .val (.int S), .val o, r7, r8, r9, r10]) := by
  have fo := kd_fz ho
  obtain ⟨y7, y8, y9, q⟩ := loop15 (k := k) (r0 := .val (.scr ns)) (r1 := .val .sta) (r2 := r2) (r3 := .val (.int C)) (r4 := .val (.int W)) (r5 := .val (.int S)) (r6 := .val o) (r10 := r10) e15 [(.int C, .int W, .int S), (o, .int W, o), (.int C, o, o), (.int C, .int W, o)] (by
    intro x hx
    simp only [List.mem_cons, List.not_mem_nil, or_false] at hx
    rcases hx with rfl | rfl | rfl | rfl
    · exact ⟨rfl, rfl, rfl⟩
    · exact ⟨ho, rfl, ho⟩
    · exact ⟨rfl, ho, ho⟩
    · exact ⟨rfl, rfl, ho⟩) r7 r8 r9
  simp only [List.map_cons, List.map_nil] at q
  unfold b15 at q
  have fr : ∀ a b c d : D, frozen (.new [a, b, c, d]) = some [a, b, c, d] := fun _ _ _ _ => rfl
  unfold u_4
  simp only [e_non, e_bl, e_int, e_str, e_var, e_con, e_bin, e_neg, e_cmp, e_chain, e_and, e_or, e_not, e_ite, e_tup, e_lst, e_idx, e_slc, e_call, e_callK, e_blt, e_isk, e_caught, e_isx, e_op0, e_op1, e_callM, b_op1, b_callM, i_callK, i_op1, o_emp, o_revT, b_var, b_cmp, b_chain, b_and, b_or, b_not, b_yes, b_call, b_callK, b_blt, b_isx, b_isk, a_nil, a_cons, r_nil, r_cons, o_nopart, o_part, i_rng1, i_rng2, i_zip, i_enum, i_cap, i_var, i_blt, i_call, i_tup, i_lst, i_idx, i_slc, q_add, q_sub, q_neg, q_lt, q_le, q_gt, q_ge, q_eqI, q_neI, q_isNN, q_isNT, q_isNI, q_isNL, q_isBB, q_isNB, q_isNS, q_isnNN, q_isnNT, q_isnNI, q_isnNL, q_andT, q_andF, q_orT, q_orF, q_not, q_toB, q_part, q_fzI, q_fzB, q_fzS, q_fzN, q_fzT, q_fzL, q_fzW, q_fzSt, q_fzSc, s_nil, s_cons, k_nx, k_rt, k_bk, k_ct, s_asg, s_asgF, s_asgT, k_asg, s_par, s_expr, s_iff, s_retN, s_raise, s_brk, s_cont, s_pass, s_frz, k_frzO, k_frzV, s_retV, k_retO, k_retV, s_ret_non, s_ret_bl, s_ret_int, s_ret_str, s_ret_con, s_ret_bin, s_ret_neg, s_ret_cmp, s_ret_chain, s_ret_and, s_ret_or, s_ret_not, s_ret_ite, s_ret_tup, s_ret_lst, s_ret_idx, s_ret_slc, s_ret_call, s_ret_callK, s_ret_op0, s_ret_op1, s_ret_callM, s_ret_blt, s_ret_isx, s_ret_isk, s_ret_comp, s_app, k_runR, k_runN, for_nil, k_forN, k_forC, k_forB, k_forR, g_nm, g_tp, o_some, noErr_ret, Yes, retK, ret_bind, err_bind, bad_bind, draw_bind, getV, slOf, slO, setAll, parT, List.length_cons, List.length_nil, List.map_cons, List.map_nil, List.getElem?_cons_zero, List.getElem?_cons_succ, List.set_cons_zero, List.set_cons_succ, List.cons_append, List.nil_append, List.replicate_succ, List.replicate_zero, fo, s_for, t3, lt4, fr, q]
  exact H _ _ _ _
theorem w3 {ns : List Int} {C W S : Int} (e6 : ∀ xs : List D, 0 < xs.length → xs.length < 1000 → (∀ d ∈ xs, kd d = true) → Yes (fun d => d ∈ xs) (k 6 [.sta, .lst xs])) (H : ∀ o, kd o = true → Yes (goP (Inv ns) fun _ => False) (ex k WH u_4 [.val (.scr ns), .val .sta, r2, .val (.int C), .val (.int W), .val (.int S), .val o, r7, r8, r9, r10])) : Yes (goP (Inv ns) fun _ => False) (ex k WH u_3 [.val (.scr ns), .val .sta, r2, .val (.int C), .val (.int W), .val (.int S), r6, r7, r8, r9, r10]) := by
  unfold u_3
  simp only [e_non, e_bl, e_int, e_str, e_var, e_con, e_bin, e_neg, e_cmp, e_chain, e_and, e_or, e_not, e_ite, e_tup, e_lst, e_idx, e_slc, e_call, e_callK, e_blt, e_isk, e_caught, e_isx, e_op0, e_op1, e_callM, b_op1, b_callM, i_callK, i_op1, o_emp, o_revT, b_var, b_cmp, b_chain, b_and, b_or, b_not, b_yes, b_call, b_callK, b_blt, b_isx, b_isk, a_nil, a_cons, r_nil, r_cons, o_nopart, o_part, i_rng1, i_rng2, i_zip, i_enum, i_cap, i_var, i_blt, i_call, i_tup, i_lst, i_idx, i_slc, q_add, q_sub, q_neg, q_lt, q_le, q_gt, q_ge, q_eqI, q_neI, q_isNN, q_isNT, q_isNI, q_isNL, q_isBB, q_isNB, q_isNS, q_isnNN, q_isnNT, q_isnNI, q_isnNL, q_andT, q_andF, q_orT, q_orF, q_not, q_toB, q_part, q_fzI, q_fzB, q_fzS, q_fzN, q_fzT, q_fzL, q_fzW, q_fzSt, q_fzSc, s_nil, s_cons, k_nx, k_rt, k_bk, k_ct, s_asg, s_asgF, s_asgT, k_asg, s_par, s_expr, s_iff, s_retN, s_raise, s_brk, s_cont, s_pass, s_frz, k_frzO, k_frzV, s_retV, k_retO, k_retV, s_ret_non, s_ret_bl, s_ret_int, s_ret_str, s_ret_con, s_ret_bin, s_ret_neg, s_ret_cmp, s_ret_chain, s_ret_and, s_ret_or, s_ret_not, s_ret_ite, s_ret_tup, s_ret_lst, s_ret_idx, s_ret_slc, s_ret_call, s_ret_callK, s_ret_op0, s_ret_op1, s_ret_callM, s_ret_blt, s_ret_isx, s_ret_isk, s_ret_comp, s_app, k_runR, k_runN, for_nil, k_forN, k_forC, k_forB, k_forR, g_nm, g_tp, o_some, noErr_ret, Yes, retK, ret_bind, err_bind, bad_bind, draw_bind, getV, slOf, slO, setAll, parT, List.length_cons, List.length_nil, List.map_cons, List.map_nil, List.getElem?_cons_zero, List.getElem?_cons_succ, List.set_cons_zero, List.set_cons_succ, List.cons_append, List.nil_append, List.replicate_succ, List.replicate_zero, t1, pw18, lt10, bind_assoc']
  have hk : ∀ d ∈ [D.int 0, .int (0 - 1), .int 61, .int 1001, .int (C + 1), .bl true, .non, .str "1", .tup [.int 1], .int 1000000000000000000], kd d = true := by
    intro d hd
    simp only [List.mem_cons, List.not_mem_nil, or_false] at hd
    rcases hd with rfl | rfl | rfl | rfl | rfl | rfl | rfl | rfl | rfl | rfl <;> rfl
  refine yes_then (e6 _ (by show 0 < 10; decide) (by show 10 < 1000; decide) hk) (fun d hd => ?_)
  have kdd := hk d hd
  simp only [e_non, e_bl, e_int, e_str, e_var, e_con, e_bin, e_neg, e_cmp, e_chain, e_and, e_or, e_not, e_ite, e_tup, e_lst, e_idx, e_slc, e_call, e_callK, e_blt, e_isk, e_caught, e_isx, e_op0, e_op1, e_callM, b_op1, b_callM, i_callK, i_op1, o_emp, o_revT, b_var, b_cmp, b_chain, b_and, b_or, b_not, b_yes, b_call, b_callK, b_blt, b_isx, b_isk, a_nil, a_cons, r_nil, r_cons, o_nopart, o_part, i_rng1, i_rng2, i_zip, i_enum, i_cap, i_var, i_blt, i_call, i_tup, i_lst, i_idx, i_slc, q_add, q_sub, q_neg, q_lt, q_le, q_gt, q_ge, q_eqI, q_neI, q_isNN, q_isNT, q_isNI, q_isNL, q_isBB, q_isNB, q_isNS, q_isnNN, q_isnNT, q_isnNI, q_isnNL, q_andT, q_andF, q_orT, q_orF, q_not, q_toB, q_part, q_fzI, q_fzB, q_fzS, q_fzN, q_fzT, q_fzL, q_fzW, q_fzSt, q_fzSc, s_nil, s_cons, k_nx, k_rt, k_bk, k_ct, s_asg, s_asgF, s_asgT, k_asg, s_par, s_expr, s_iff, s_retN, s_raise, s_brk, s_cont, s_pass, s_frz, k_frzO, k_frzV, s_retV, k_retO, k_retV, s_ret_non, s_ret_bl, s_ret_int, s_ret_str, s_ret_con, s_ret_bin, s_ret_neg, s_ret_cmp, s_ret_chain, s_ret_and, s_ret_or, s_ret_not, s_ret_ite, s_ret_tup, s_ret_lst, s_ret_idx, s_ret_slc, s_ret_call, s_ret_callK, s_ret_op0, s_ret_op1, s_ret_callM, s_ret_blt, s_ret_isx, s_ret_isk, s_ret_comp, s_app, k_runR, k_runN, for_nil, k_forN, k_forC, k_forB, k_forR, g_nm, g_tp, o_some, noErr_ret, Yes, retK, ret_bind, err_bind, bad_bind, draw_bind, getV, slOf, slO, setAll, parT, List.length_cons, List.length_nil, List.map_cons, List.map_nil, List.getElem?_cons_zero, List.getElem?_cons_succ, List.set_cons_zero, List.set_cons_succ, List.cons_append, List.nil_append, List.replicate_succ, List.replicate_zero, kd_fz kdd]
  exact H d kdd
theorem w2 {ns : List Int} {C W : Int} (e0 : k 0 [.sta, .int (C + 1)] = .draw (C + 1) fun d => .ret (.int d)) (H : ∀ S : Int, Yes (goP (Inv ns) fun _ => False) (ex k WH u_3 [.val (.scr ns), .val .sta, r2, .val (.int C), .val (.int W), .val (.int S), r6, r7, r8, r9, r10])) : Yes (goP (Inv ns) fun _ => False) (ex k WH u_2 [.val (.scr ns), .val .sta, r2, .val (.int C), .val (.int W), r5, r6, r7, r8, r9, r10]) := by
  unfold u_2
  simp only [e_non, e_bl, e_int, e_str, e_var, e_con, e_bin, e_neg, e_cmp, e_chain, e_and, e_or, e_not, e_ite, e_tup, e_lst, e_idx, e_slc, e_call, e_callK, e_blt, e_isk, e_caught, e_isx, e_op0, e_op1, e_callM, b_op1, b_callM, i_callK, i_op1, o_emp, o_revT, b_var, b_cmp, b_chain, b_and, b_or, b_not, b_yes, b_call, b_callK, b_blt, b_isx, b_isk, a_nil, a_cons, r_nil, r_cons, o_nopart, o_part, i_rng1, i_rng2, i_zip, i_enum, i_cap, i_var, i_blt, i_call, i_tup, i_lst, i_idx, i_slc, q_add, q_sub, q_neg, q_lt, q_le, q_gt, q_ge, q_eqI, q_neI, q_isNN, q_isNT, q_isNI, q_isNL, q_isBB, q_isNB, q_isNS, q_isnNN, q_isnNT, q_isnNI, q_isnNL, q_andT, q_andF, q_orT, q_orF, q_not, q_toB, q_part, q_fzI, q_fzB, q_fzS, q_fzN, q_fzT, q_fzL, q_fzW, q_fzSt, q_fzSc, s_nil, s_cons, k_nx, k_rt, k_bk, k_ct, s_asg, s_asgF, s_asgT, k_asg, s_par, s_expr, s_iff, s_retN, s_raise, s_brk, s_cont, s_pass, s_frz, k_frzO, k_frzV, s_retV, k_retO, k_retV, s_ret_non, s_ret_bl, s_ret_int, s_ret_str, s_ret_con, s_ret_bin, s_ret_neg, s_ret_cmp, s_ret_chain, s_ret_and, s_ret_or, s_ret_not, s_ret_ite, s_ret_tup, s_ret_lst, s_ret_idx, s_ret_slc, s_ret_call, s_ret_callK, s_ret_op0, s_ret_op1, s_ret_callM, s_ret_blt, s_ret_isx, s_ret_isk, s_ret_comp, s_app, k_runR, k_runN, for_nil, k_forN, k_forC, k_forB, k_forR, g_nm, g_tp, o_some, noErr_ret, Yes, retK, ret_bind, err_bind, bad_bind, draw_bind, getV, slOf, slO, setAll, parT, List.length_cons, List.length_nil, List.map_cons, List.map_nil, List.getElem?_cons_zero, List.getElem?_cons_succ, List.set_cons_zero, List.set_cons_succ, List.cons_append, List.nil_append, List.replicate_succ, List.replicate_zero, e0]
  exact yes_draw fun S _ _ => H S
theorem w1 {ns : List Int} {C : Int} (c1 : 1 ≤ C) (c2 : C ≤ 1000) (e6 : ∀ xs : List D, 0 < xs.length → xs.length < 1000 → (∀ d ∈ xs, kd d = true) → Yes (fun d => d ∈ xs) (k 6 [.sta, .lst xs])) (e0 : ∀ m : Int, 0 < m → m < 2 ^ 64 → k 0 [.sta, .int m] = .draw m fun d => .ret (.int d)) (H : ∀ W : Int, 1 ≤ W → Yes (goP (Inv ns) fun _ => False) (ex k WH u_2 [.val (.scr ns), .val .sta, r2, .val (.int C), .val (.int W), r5, r6, r7, r8, r9, r10])) : Yes (goP (Inv ns) fun _ => False) (ex k WH u_1 [.val (.scr ns), .val .sta, r2, .val (.int C), r4, r5, r6, r7, r8, r9, r10]) := by
  unfold u_1
  simp only [e_non, e_bl, e_int, e_str, e_var, e_con, e_bin, e_neg, e_cmp, e_chain, e_and, e_or, e_not, e_ite, e_tup, e_lst, e_idx, e_slc, e_call, e_callK, e_blt, e_isk, e_caught, e_isx, e_op0, e_op1, e_callM, b_op1, b_callM, i_callK, i_op1, o_emp, o_revT, b_var, b_cmp, b_chain, b_and, b_or, b_not, b_yes, b_call, b_callK, b_blt, b_isx, b_isk, a_nil, a_cons, r_nil, r_cons, o_nopart, o_part, i_rng1, i_rng2, i_zip, i_enum, i_cap, i_var, i_blt, i_call, i_tup, i_lst, i_idx, i_slc, q_add, q_sub, q_neg, q_lt, q_le, q_gt, q_ge, q_eqI, q_neI, q_isNN, q_isNT, q_isNI, q_isNL, q_isBB, q_isNB, q_isNS, q_isnNN, q_isnNT, q_isnNI, q_isnNL, q_andT, q_andF, q_orT, q_orF, q_not, q_toB, q_part, q_fzI, q_fzB, q_fzS, q_fzN, q_fzT, q_fzL, q_fzW, q_fzSt, q_fzSc, s_nil, s_cons, k_nx, k_rt, k_bk, k_ct, s_asg, s_asgF, s_asgT, k_asg, s_par, s_expr, s_iff, s_retN, s_raise, s_brk, s_cont, s_pass, s_frz, k_frzO, k_frzV, s_retV, k_retO, k_retV, s_ret_non, s_ret_bl, s_ret_int, s_ret_str, s_ret_con, s_ret_bin, s_ret_neg, s_ret_cmp, s_ret_chain, s_ret_and, s_ret_or, s_ret_not, s_ret_ite, s_ret_tup, s_ret_lst, s_ret_idx, s_ret_slc, s_ret_call, s_ret_callK, s_ret_op0, s_ret_op1, s_ret_callM, s_ret_blt, s_ret_isx, s_ret_isk, s_ret_comp, s_app, k_runR, k_runN, for_nil, k_forN, k_forC, k_forB, k_forR, g_nm, g_tp, o_some, noErr_ret, Yes, retK, ret_bind, err_bind, bad_bind, draw_bind, getV, slOf, slO, setAll, parT, List.length_cons, List.length_nil, List.map_cons, List.map_nil, List.getElem?_cons_zero, List.getElem?_cons_succ, List.set_cons_zero, List.set_cons_succ, List.cons_append, List.nil_append, List.replicate_succ, List.replicate_zero, lt4, bind_assoc']
  refine yes_then (e6 _ (by show 0 < 4; decide) (by show 4 < 1000; decide) (by
    intro d hd
    simp only [List.mem_cons, List.not_mem_nil, or_false] at hd
    rcases hd with rfl | rfl | rfl | rfl <;> rfl)) (fun d hd => ?_)
  obtain ⟨m, rfl, m1, m2⟩ : ∃ m : Int, d = .int m ∧ 0 < m ∧ m < 2 ^ 64 := by
    simp only [List.mem_cons, List.not_mem_nil, or_false] at hd
    rcases hd with rfl | rfl | rfl | rfl
    · exact ⟨_, rfl, by decide, by decide⟩
    · exact ⟨_, rfl, by decide, by decide⟩
    · exact ⟨_, rfl, by omega, by omega⟩
    · exact ⟨_, rfl, by omega, by omega⟩
  have e := e0 m m1 m2
  simp only [e_non, e_bl, e_int, e_str, e_var, e_con, e_bin, e_neg, e_cmp, e_chain, e_and, e_or, e_not, e_ite, e_tup, e_lst, e_idx, e_slc, e_call, e_callK, e_blt, e_isk, e_caught, e_isx, e_op0, e_op1, e_callM, b_op1, b_callM, i_callK, i_op1, o_emp, o_revT, b_var, b_cmp, b_chain, b_and, b_or, b_not, b_yes, b_call, b_callK, b_blt, b_isx, b_isk, a_nil, a_cons, r_nil, r_cons, o_nopart, o_part, i_rng1, i_rng2, i_zip, i_enum, i_cap, i_var, i_blt, i_call, i_tup, i_lst, i_idx, i_slc, q_add, q_sub, q_neg, q_lt, q_le, q_gt, q_ge, q_eqI, q_neI, q_isNN, q_isNT, q_isNI, q_isNL, q_isBB, q_isNB, q_isNS, q_isnNN, q_isnNT, q_isnNI, q_isnNL, q_andT, q_andF, q_orT, q_orF, q_not, q_toB, q_part, q_fzI, q_fzB, q_fzS, q_fzN, q_fzT, q_fzL, q_fzW, q_fzSt, q_fzSc, s_nil, s_cons, k_nx, k_rt, k_bk, k_ct, s_asg, s_asgF, s_asgT, k_asg, s_par, s_expr, s_iff, s_retN, s_raise, s_brk, s_cont, s_pass, s_frz, k_frzO, k_frzV, s_retV, k_retO, k_retV, s_ret_non, s_ret_bl, s_ret_int, s_ret_str, s_ret_con, s_ret_bin, s_ret_neg, s_ret_cmp, s_ret_chain, s_ret_and, s_ret_or, s_ret_not, s_ret_ite, s_ret_tup, s_ret_lst, s_ret_idx, s_ret_slc, s_ret_call, s_ret_callK, s_ret_op0, s_ret_op1, s_ret_callM, s_ret_blt, s_ret_isx, s_ret_isk, s_ret_comp, s_app, k_runR, k_runN, for_nil, k_forN, k_forC, k_forB, k_forR, g_nm, g_tp, o_some, noErr_ret, Yes, retK, ret_bind, err_bind, bad_bind, draw_bind, getV, slOf, slO, setAll, parT, List.length_cons, List.length_nil, List.map_cons, List.map_nil, List.getElem?_cons_zero, List.getElem?_cons_succ, List.set_cons_zero, List.set_cons_succ, List.cons_append, List.nil_append, List.replicate_succ, List.replicate_zero, e]
  exact yes_draw fun W w0 _ => H (1 + W) (by omega)
theorem w0 {ns : List Int} (e6 : ∀ xs : List D, 0 < xs.length → xs.length < 1000 → (∀ d ∈ xs, kd d = true) → Yes (fun d => d ∈ xs) (k 6 [.sta, .lst xs])) (e0 : ∀ m : Int, 0 < m → m < 2 ^ 64 → k 0 [.sta, .int m] = .draw m fun d => .ret (.int d)) (H : ∀ C : Int, 1 ≤ C → C ≤ 1000 → Yes (goP (Inv ns) fun _ => False) (ex k WH u_1 [.val (.scr ns), .val .sta, r2, .val (.int C), r4, r5, r6, r7, r8, r9, r10])) : Yes (goP (Inv ns) fun _ => False) (ex k WH u_0 [.val (.scr ns), .val .sta, r2, r3, r4, r5, r6, r7, r8, r9, r10]) := by
  have e1 := e0 7 (by decide) (by decide)
  have e2 := e0 60 (by decide) (by decide)
  have e3 := e0 1000 (by decide) (by decide)
  unfold u_0
  simp only [e_non, e_bl, e_int, e_str, e_var, e_con, e_bin, e_neg, e_cmp, e_chain, e_and, e_or, e_not, e_ite, e_tup, e_lst, e_idx, e_slc, e_call, e_callK, e_blt, e_isk, e_caught, e_isx, e_op0, e_op1, e_callM, b_op1, b_callM, i_callK, i_op1, o_emp, o_revT, b_var, b_cmp, b_chain, b_and, b_or, b_not, b_yes, b_call, b_callK, b_blt, b_isx, b_isk, a_nil, a_cons, r_nil, r_cons, o_nopart, o_part, i_rng1, i_rng2, i_zip, i_enum, i_cap, i_var, i_blt, i_call, i_tup, i_lst, i_idx, i_slc, q_add, q_sub, q_neg, q_lt, q_le, q_gt, q_ge, q_eqI, q_neI, q_isNN, q_isNT, q_isNI, q_isNL, q_isBB, q_isNB, q_isNS, q_isnNN, q_isnNT, q_isnNI, q_isnNL, q_andT, q_andF, q_orT, q_orF, q_not, q_toB, q_part, q_fzI, q_fzB, q_fzS, q_fzN, q_fzT, q_fzL, q_fzW, q_fzSt, q_fzSc, s_nil, s_cons, k_nx, k_rt, k_bk, k_ct, s_asg, s_asgF, s_asgT, k_asg, s_par, s_expr, s_iff, s_retN, s_raise, s_brk, s_cont, s_pass, s_frz, k_frzO, k_frzV, s_retV, k_retO, k_retV, s_ret_non, s_ret_bl, s_ret_int, s_ret_str, s_ret_con, s_ret_bin, s_ret_neg, s_ret_cmp, s_ret_chain, s_ret_and, s_ret_or, s_ret_not, s_ret_ite, s_ret_tup, s_ret_lst, s_ret_idx, s_ret_slc, s_ret_call, s_ret_callK, s_ret_op0, s_ret_op1, s_ret_callM, s_ret_blt, s_ret_isx, s_ret_isk, s_ret_comp, s_app, k_runR, k_runN, for_nil, k_forN, k_forC, k_forB, k_forR, g_nm, g_tp, o_some, noErr_ret, Yes, retK, ret_bind, err_bind, bad_bind, draw_bind, getV, slOf, slO, setAll, parT, List.length_cons, List.length_nil, List.map_cons, List.map_nil, List.getElem?_cons_zero, List.getElem?_cons_succ, List.set_cons_zero, List.set_cons_succ, List.cons_append, List.nil_append, List.replicate_succ, List.replicate_zero, e1, e2, e3, lt5, bind_assoc']
  refine yes_draw fun a a0 a1 => yes_draw fun b b0 b1 => yes_draw fun c c0 c1 => ?_
  refine yes_then (e6 _ (by show 0 < 5; decide) (by show 5 < 1000; decide) (by
    intro d hd
    simp only [List.mem_cons, List.not_mem_nil, or_false] at hd
    rcases hd with rfl | rfl | rfl | rfl | rfl <;> rfl)) (fun d hd => ?_)
  obtain ⟨C, rfl, k1, k2⟩ : ∃ m : Int, d = .int m ∧ 1 ≤ m ∧ m ≤ 1000 := by
    simp only [List.mem_cons, List.not_mem_nil, or_false] at hd
    rcases hd with rfl | rfl | rfl | rfl | rfl
    · exact ⟨_, rfl, by omega, by omega⟩
    · exact ⟨_, rfl, by omega, by omega⟩
    · exact ⟨_, rfl, by decide, by decide⟩
    · exact ⟨_, rfl, by omega, by omega⟩
    · exact ⟨_, rfl, by decide, by decide⟩
  simp only [e_non, e_bl, e_int, e_str, e_var, e_con, e_bin, e_neg, e_cmp, e_chain, e_and, e_or, e_not, e_ite, e_tup, e_lst, e_idx, e_slc, e_call, e_callK, e_blt, e_isk, e_caught, e_isx, e_op0, e_op1, e_callM, b_op1, b_callM, i_callK, i_op1, o_emp, o_revT, b_var, b_cmp, b_chain, b_and, b_or, b_not, b_yes, b_call, b_callK, b_blt, b_isx, b_isk, a_nil, a_cons, r_nil, r_cons, o_nopart, o_part, i_rng1, i_rng2, i_zip, i_enum, i_cap, i_var, i_blt, i_call, i_tup, i_lst, i_idx, i_slc, q_add, q_sub, q_neg, q_lt, q_le, q_gt, q_ge, q_eqI, q_neI, q_isNN, q_isNT, q_isNI, q_isNL, q_isBB, q_isNB, q_isNS, q_isnNN, q_isnNT, q_isnNI, q_isnNL, q_andT, q_andF, q_orT, q_orF, q_not, q_toB, q_part, q_fzI, q_fzB, q_fzS, q_fzN, q_fzT, q_fzL, q_fzW, q_fzSt, q_fzSc, s_nil, s_cons, k_nx, k_rt, k_bk, k_ct, s_asg, s_asgF, s_asgT, k_asg, s_par, s_expr, s_iff, s_retN, s_raise, s_brk, s_cont, s_pass, s_frz, k_frzO, k_frzV, s_retV, k_retO, k_retV, s_ret_non, s_ret_bl, s_ret_int, s_ret_str, s_ret_con, s_ret_bin, s_ret_neg, s_ret_cmp, s_ret_chain, s_ret_and, s_ret_or, s_ret_not, s_ret_ite, s_ret_tup, s_ret_lst, s_ret_idx, s_ret_slc, s_ret_call, s_ret_callK, s_ret_op0, s_ret_op1, s_ret_callM, s_ret_blt, s_ret_isx, s_ret_isk, s_ret_comp, s_app, k_runR, k_runN, for_nil, k_forN, k_forC, k_forB, k_forR, g_nm, g_tp, o_some, noErr_ret, Yes, retK, ret_bind, err_bind, bad_bind, draw_bind, getV, slOf, slO, setAll, parT, List.length_cons, List.length_nil, List.map_cons, List.map_nil, List.getElem?_cons_zero, List.getElem?_cons_succ, List.set_cons_zero, List.set_cons_succ, List.cons_append, List.nil_append, List.replicate_succ, List.replicate_zero]
  exact H C k1 k2
end
theorem stepL {c : Nat → List D → T D} (hc : c = callF tab WH 10) {ns : List Int} (t : Int) (r : PV.Env) (hr : Inv ns r) :
    ∃ r1, bindTg (.nm 2) (.int t) r = .ret r1 ∧ Yes (goP (Inv ns) (fun _ => False)) (ex c WH u_0 r1) := by
  obtain ⟨x2, x3, x4, x5, x6, x7, x8, x9, x10, rfl⟩ := hr
  refine ⟨_, rfl, ?_⟩
  have e6 : ∀ xs : List D, 0 < xs.length → xs.length < 1000 → (∀ d ∈ xs, kd d = true) → Yes (fun d => d ∈ xs) (c 6 [.sta, .lst xs]) := fun xs h1 h2 h3 => f6c (n := 7) hc h1 h2 h3
  have e0 : ∀ m : Int, 0 < m → m < 2 ^ 64 → c 0 [.sta, .int m] = .draw m fun d => .ret (.int d) := fun m h1 h2 => drc (m := 8) hc h1 h2
  have e15 : ∀ a b d, kd a = true → kd b = true → kd d = true → c 15 [a, b, d] = .ret (.bl true) := fun a b d h1 h2 h3 => by
    subst hc
    exact f15 h1 h2 h3
  have e14 : ∀ a b d, kd a = true → kd b = true → Ck d → c 14 [a, b, d] = .ret (.bl true) := fun a b d h1 h2 h3 => by
    subst hc
    exact f14 h1 h2 h3
  have e12 : ∀ C W : Int, C ≤ 1000 → 1 ≤ W → W ≤ C → Yes Ck (c 12 [.sta, .int C, .int W]) := fun C W h1 h2 h3 => by
    subst hc
    exact f12 (n := 6) h1 h2 h3
  exact w0 e6 e0 fun C c1 c2 => w1 c1 c2 e6 e0 fun W w1' => w2 (e0 _ (by omega) (by omega)) fun S => w3 e6 fun o ho => w4 ho e15 fun _ _ _ _ => w5 ho e14 fun h => e12 C W c2 w1' h
theorem body_yes {c : Nat → List D → T D} (hc : c = callF tab WH 10) {ns : List Int} : Yes (fun fl => fl = .rt (.bl true)) (ex c WH dL.body (startE dL.N [.scr ns, .sta])) := by
  rw [bodyL, show startE dL.N [.scr ns, .sta] = [.val (.scr ns), .val .sta, .un, .un, .un, .un, .un, .un, .un, .un, .un] from rfl]
  have hr : rng1T (.int 4) = .ret ((rng 0 4).map D.int) := rng1_T (by decide) (by decide)
  generalize rng 0 4 = four at hr
  have L := yes_for (set := bindTg (.nm 2)) (body := ex c WH u_0) (g := D.int) (Inv := fun _ r => Inv ns r) (V := fun _ => False) four (fun t l' r hr => stepL hc t r hr) [.val (.scr ns), .val .sta, .un, .un, .un, .un, .un, .un, .un, .un, .un] ⟨_, _, _, _, _, _, _, _, _, rfl⟩
  have e : ex c WH tL_0 [.val (.scr ns), .val .sta, .un, .un, .un, .un, .un, .un, .un, .un, .un] = forL (bindTg (.nm 2)) (ex c WH u_0) (four.map D.int) [.val (.scr ns), .val .sta, .un, .un, .un, .un, .un, .un, .un, .un, .un] >>= seqK (ex c WH tL_1) := by
    have e0 : ∀ r, ex c WH tL_0 r = ex c WH (.for_ (.nm 2) (.rng1 (.int 4)) u_0) r >>= seqK (ex c WH tL_1) := fun r => s_cons
    rw [e0, s_for]
    simp only [i_rng1, e_int, ret_bind, hr]
  rw [e]
  refine yes_then L (fun fl q => ?_)
  cases fl with
  | nx r =>
    unfold tL_1
    simp only [e_non, e_bl, e_int, e_str, e_var, e_con, e_bin, e_neg, e_cmp, e_chain, e_and, e_or, e_not, e_ite, e_tup, e_lst, e_idx, e_slc, e_call, e_callK, e_blt, e_isk, e_caught, e_isx, e_op0, e_op1, e_callM, b_op1, b_callM, i_callK, i_op1, o_emp, o_revT, b_var, b_cmp, b_chain, b_and, b_or, b_not, b_yes, b_call, b_callK, b_blt, b_isx, b_isk, a_nil, a_cons, r_nil, r_cons, o_nopart, o_part, i_rng1, i_rng2, i_zip, i_enum, i_cap, i_var, i_blt, i_call, i_tup, i_lst, i_idx, i_slc, q_add, q_sub, q_neg, q_lt, q_le, q_gt, q_ge, q_eqI, q_neI, q_isNN, q_isNT, q_isNI, q_isNL, q_isBB, q_isNB, q_isNS, q_isnNN, q_isnNT, q_isnNI, q_isnNL, q_andT, q_andF, q_orT, q_orF, q_not, q_toB, q_part, q_fzI, q_fzB, q_fzS, q_fzN, q_fzT, q_fzL, q_fzW, q_fzSt, q_fzSc, s_nil, s_cons, k_nx, k_rt, k_bk, k_ct, s_asg, s_asgF, s_asgT, k_asg, s_par, s_expr, s_iff, s_retN, s_raise, s_brk, s_cont, s_pass, s_frz, k_frzO, k_frzV, s_retV, k_retO, k_retV, s_ret_non, s_ret_bl, s_ret_int, s_ret_str, s_ret_con, s_ret_bin, s_ret_neg, s_ret_cmp, s_ret_chain, s_ret_and, s_ret_or, s_ret_not, s_ret_ite, s_ret_tup, s_ret_lst, s_ret_idx, s_ret_slc, s_ret_call, s_ret_callK, s_ret_op0, s_ret_op1, s_ret_callM, s_ret_blt, s_ret_isx, s_ret_isk, s_ret_comp, s_app, k_runR, k_runN, for_nil, k_forN, k_forC, k_forB, k_forR, g_nm, g_tp, o_some, noErr_ret, Yes, retK, ret_bind, err_bind, bad_bind, draw_bind, getV, slOf, slO, setAll, parT, List.length_cons, List.length_nil, List.map_cons, List.map_nil, List.getElem?_cons_zero, List.getElem?_cons_succ, List.set_cons_zero, List.set_cons_succ, List.cons_append, List.nil_append, List.replicate_succ, List.replicate_zero]
    exact yes_ret rfl
  | rt v => exact q.elim
  | bk _ => exact q.elim
  | ct _ => exact q.elim
theorem okT_ : okT tab WH 10 = true := by decide +kernel
theorem okS_ : okS (look (PV.cT tab WH 10)) WH dL.body = true := by decide +kernel
theorem cost_ : cS (look (PV.cT tab WH 10)) WH dL.body ≤ LIM := by decide +kernel
theorem plainG {c : Nat → List D → T D} (hc : c = callF tab WH 10) {ns : List Int} (t : T Fl) (ht : t = ex c WH dL.body (startE dL.N [.scr ns, .sta])) : t.All (fun _ fl => fl = .rt (.bl true)) (fun _ _ => False) LIM := by
  have h1 : Yes (fun fl => fl = .rt (.bl true)) t := by rw [ht]; exact body_yes hc
  have h2 := leS (call := c) (fun f ds => by rw [hc]; exact leF 10 okT_ f ds) dL.body okS_ (startE dL.N [.scr ns, .sta])
  rw [← ht] at h2
  exact all_of h1.all h2 cost_
theorem plain (ns : List Int) (hl : ns.length ≤ 63) : (ex (callF tab WH 10) WH dL.body (startE dL.N [.scr ns, .sta])).All (fun _ fl => fl = .rt (.bl true)) (fun _ _ => False) LIM := plainG rfl _ rfl
end LW
end
section
set_option maxHeartbeats 4000000
open PySem PySem.W PySem.Calls PyProof.Rows
theorem PySem.Challenge.cw_samehowever_k81_samples_that_miss_holds : PySem.Challenge.rw_samehowever_k81_samples_that_miss.Holds := by
  w_on; o_law
  refine HandSHeadRun.head_imp (r := OpenLaw.row PySem.Challenge.rw_samehowever_k81_samples_that_miss) (q := view (OpenLaw.row PySem.Challenge.rw_samehowever_k81_samples_that_miss).prog [0, 31]) (H := LW.hk) (ob := LW.ob) (M := 8000) (loose := LW.loose) (d := HandSHeadRun.topDef (OpenLaw.row PySem.Challenge.rw_samehowever_k81_samples_that_miss).prog 31) (kwd := []) LW.ob_eq
    LW.run (by kernel_rfl) (by kernel_rfl) (by kernel_rfl) (by rfl) (by first | assumption | decide +kernel) (by decide +kernel) ⟨rfl, rfl, rfl, rfl, rfl, by decide +kernel⟩ ?hw ?hc
  case hw => w_witness2
  case hc =>
    refine LamX.walk_ofTsE (l := PySem.Challenge.rw_samehowever_k81_samples_that_miss) (n := 63) (k := 33) (x := "script") (CX := fun _ => L2.CX0) rfl (by decide) (by kernel_rfl) ⟨rfl, by decide, by decide⟩ ?F (fun _ _ _ _ _ z => z)
    intro w mg fa h Y G hmg0
    obtain ⟨K, KX, c⟩ := Y
    have hmg : mg ("law" : PySem.Str) = some (.ref fa) := by
      have e : (HandSHeadRun.topDef (OpenLaw.row PySem.Challenge.rw_samehowever_k81_samples_that_miss).prog 31).name = ("law" : PySem.Str) := by kernel_rfl
      rw [← e]
      exact hmg0
    obtain ⟨fd, hb, hF⟩ := LW.law_facts LW.plain (P := (PySem.Challenge.rw_samehowever_k81_samples_that_miss).prog) (w := w) KX G hmg c
    refine ⟨K, KX, fd, LW.tf.map (He.cT K), PV.spLaw K (PV.TK K LW.tf), fun p hp => ?_, fun p hp => ?_, fun p hp => ?_, hb, fun H a ns hl _ hT hS => ⟨a, ns, rfl, hS, hl, fun p hp => ?_, fun _ => rfl⟩, hF⟩
    · obtain ⟨q, hq, rfl⟩ := List.mem_map.mp hp
      exact c.empty q hq
    · obtain ⟨q, hq, rfl⟩ := List.mem_map.mp hp
      exact c.out q hq
    · obtain ⟨q, hq, rfl⟩ := List.mem_map.mp hp
      exact codeHd_of_K KX (c.hd q hq)
    · obtain ⟨q, hq, rfl⟩ := List.mem_map.mp hp
      exact hT _ (List.mem_map_of_mem hq)
end
