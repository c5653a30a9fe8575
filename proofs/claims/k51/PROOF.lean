import PyProof.Rows.All
import Wide.All
import OpenK.AllK
import Wide.FinOn
import HandS.ForMost
import KE.KMathGC
import HandS.Exc
import HandS.ExcOwn
import HandS.WordsExc
import HandS.Defaults
import HandS.TupAny
import HandS.TupMul
import HandS.IsInst
import HandS.Wide
import HandS.Walk
import HandS.Zip
import HandS.Lambda
import KE.KSortedM
import HandS.ExcValue
import HandS.ExcIs
import HandS.Style
import HandS.Gcd
import HandS.Conv
import HandS.Dict
import HandS.Words
import HandS.HeadHook1
import HandS.HeadHook2
import HandS.HeadHook3
import HandS.HeadHook4
import HandS.HeadWalk
import PySem.Challenge.RW_samehowever_k51_linked
import KE.KStateDown
import Lean
import HandS.Ends
import HandS.More
import HandS.Head0
import HandS.Head1
import HandS.Head2
import HandS.Head3
import HandS.HeadEnd
set_option Elab.async false
set_option linter.all false
set_option maxRecDepth 100000
section
set_option maxHeartbeats 4000000
/-! PvCore: plain data, the tree of draws, a small language, what it computes. -/
namespace PV
open PySem

/-- plain data; bor: a list of one's own, looked at; new: a list that nobody else holds -/
inductive D where
  | non | bl (b : Bool) | int (i : Int) | str (x : Str) | tup (xs : List D) | lst (xs : List D)
  | emp | exc (c : Nat) | sta | scr (ns : List Int) | bor (xs : List D) | new (xs : List D)

/-- what a run comes to: an answer, an error of a class, no answer, or a drawn number first -/
inductive T (a : Type) : Type where
  | ret (x : a) | err (c : Nat) | bad | draw (n : Int) (k : Int → T a)
namespace T
def bind {a b : Type} : T a → (a → T b) → T b
  | .ret x, f => f x
  | .err c, _ => .err c
  | .bad, _ => .bad
  | .draw n k, f => .draw n fun d => bind (k d) f
/-- whatever is drawn, with b draws left (a draw may cost one) -/
def All {a : Type} (P : Nat → a → Prop) (E : Nat → Nat → Prop) : T a → Nat → Prop
  | .ret x, b => P b x
  | .err c, b => E b c
  | .bad, _ => False
  | .draw n k, b => 0 < b ∧ ∀ d, 0 ≤ d → d < n → ∀ b', b ≤ b' + 1 → b' ≤ b → All P E (k d) b'
end T
instance : Monad T where
  pure := T.ret
  bind := T.bind
section
variable {a b c : Type}
theorem ret_bind (x : a) (f : a → T b) : (T.ret x >>= f) = f x := rfl
theorem pure_bind' (x : a) (f : a → T b) : ((pure x : T a) >>= f) = f x := rfl
theorem pure_ret (x : a) : (pure x : T a) = T.ret x := rfl
theorem err_bind (k : Nat) (f : a → T b) : ((T.err k : T a) >>= f) = T.err k := rfl
theorem bad_bind (f : a → T b) : ((T.bad : T a) >>= f) = T.bad := rfl
theorem draw_bind (n : Int) (k : Int → T a) (f : a → T b) : ((T.draw n k : T a) >>= f) = T.draw n fun d => k d >>= f := rfl
theorem bind_ret (t : T a) : (t >>= T.ret) = t := by
  show T.bind t T.ret = t
  induction t with
  | ret x => rfl
  | err c => rfl
  | bad => rfl
  | draw n k ih => exact congrArg (T.draw n) (funext ih)
theorem bind_assoc' (t : T a) (f : a → T b) (g : b → T c) : ((t >>= f) >>= g) = (t >>= fun x => f x >>= g) := by
  show T.bind (T.bind t f) g = T.bind t fun x => T.bind (f x) g
  induction t with
  | ret x => rfl
  | err c => rfl
  | bad => rfl
  | draw n k ih => exact congrArg (T.draw n) (funext ih)
theorem all_ret {P : Nat → a → Prop} {E : Nat → Nat → Prop} {x : a} {m : Nat} : (T.ret x).All P E m ↔ P m x := Iff.rfl
theorem all_bind {P : Nat → b → Prop} {E : Nat → Nat → Prop} {f : a → T b} {t : T a} {m : Nat} : (t >>= f).All P E m ↔ t.All (fun m x => (f x).All P E m) E m := by
  show (T.bind t f).All P E m ↔ _
  induction t generalizing m with
  | ret x => exact Iff.rfl
  | err c => exact Iff.rfl
  | bad => exact Iff.rfl
  | draw n k ih => exact ⟨fun h => ⟨h.1, fun d h0 h1 m' h2 h3 => (ih d).mp (h.2 d h0 h1 m' h2 h3)⟩, fun h => ⟨h.1, fun d h0 h1 m' h2 h3 => (ih d).mpr (h.2 d h0 h1 m' h2 h3)⟩⟩
theorem All.mono {P Q : Nat → a → Prop} {E F : Nat → Nat → Prop} {t : T a} {m : Nat} (h : t.All P E m) (hp : ∀ {m} x, P m x → Q m x) (he : ∀ {m} c, E m c → F m c) : t.All Q F m := by
  induction t generalizing m with
  | ret x => exact hp x h
  | err c => exact he c h
  | bad => exact h
  | draw n k ih => exact ⟨h.1, fun d h0 h1 m' h2 h3 => ih d (h.2 d h0 h1 m' h2 h3)⟩
end

/-! ### the language -/
inductive BOp | add | sub | mul | fdiv | mod | pow
  deriving DecidableEq
inductive COp | lt | le | gt | ge | eq | ne | is | isn | inn | nin
  deriving DecidableEq
/-- built-in calls -/
inductive Blt | abs | max | min | len | sum | all | any | sorted | list | tuple | int | isint | isbool | istup | islst | isstr | gcd | comb | str
  deriving DecidableEq
/-- terms of no, of one part -/
inductive O0 | emp
  deriving DecidableEq
inductive O1 | rev
  deriving DecidableEq
inductive Tg | nm (i : Nat) | tp (is : List Nat)
  deriving DecidableEq
inductive X where
  | non | bl (b : Bool) | int (i : Int) | str (x : Str) | var (i : Nat) | con (x : Str) (i : Int)
  | bin (op : BOp) (a b : X) | neg (a : X) | cmp (op : COp) (a b : X) | chain (o p : COp) (a b c : X) | chain3 (o p q : COp) (a b c d : X) | lrng (a b : X)
  | and (a b : X) | or (a b : X) | not (a : X) | ite (t a b : X)
  | tup (as : X) | lst (as : X) | nil | cons (a as : X)
  | idx (a i : X) | slc (a lo hi : X) | part (a : X) | nopart
  | call (f : Nat) (as : X) | callK (f : Nat) (perm : List Nat) (as : X) | blt (f : Blt) (as : X) | isk (f : Blt) (a : X)
  | comp (tg : Tg) (it cond elt : X) (own : List (Str × Nat)) | yes
  | op0 (o : O0) | op1 (o : O1) (a : X) | callM (f m : Nat) (perm : List Nat) (as bs : X)
  | caught (nx : Nat) (a : X) | isx (nx k : Nat) (a : X) | must (a : X) | errs (i tag : Nat) (ss : List Str) (ks st : X)
  | cap (a : X) | rng1 (a : X) | rng2 (a b : X) | zip (a b : X) | enum (a : X)
  deriving DecidableEq
inductive S where
  | nil | cons (s r : S)
  | asg (i : Nat) (e : X) | asgF (i : Nat) (e : X) | asgT (is : List Nat) (e : X) | par (is : List Nat) (es : X) | expr (e : X)
  | app (i : Nat) (e : X) | sset (i : Nat) (ix e : X)
  | iff (t : X) (a b : S) | for_ (tg : Tg) (it : X) (body : S) | while_ (t : X) (body : S)
  | ret (e : X) | retN | raise (c : Nat) | frz (i : Nat) | brk | cont | pass | lams (i tag : Nat)

/-! ### data: equality, order -/
mutual
def D.toPy : D → PyData
  | .non => .none | .bl b => .bool b | .int i => .int i | .str x => .str x
  | .tup xs => .tuple (D.toPys xs) | .lst xs => .list (D.toPys xs) | .bor xs => .list (D.toPys xs) | .new xs => .list (D.toPys xs)
  | .scr ns => .list (ns.map PyData.int)
  | .emp => .dict [] | .exc _ => .dict [] | .sta => .dict []
def D.toPys : List D → List PyData
  | [] => []
  | d :: ds => D.toPy d :: D.toPys ds
end
def okPy (d : D) : Bool := SeqAt.shaped d.toPy
def deq (a b : D) : T Bool := if okPy a && okPy b then .ret (PyData.eqv a.toPy b.toPy) else .bad
def flat : D → Bool
  | .non => true | .bl _ => true | .int _ => true | .str _ => true | _ => false
/-- a list's or tuple's items -/
def items : D → Option (List D)
  | .tup xs => some xs | .lst xs => some xs | .bor xs => some xs | .new xs => some xs | .scr ns => some (ns.map D.int) | _ => none
def intsD : List D → Option (List Int)
  | [] => some []
  | .int i :: ds => (intsD ds).map (i :: ·)
  | _ :: _ => none
def blsD : List D → Option (List Bool)
  | [] => some []
  | .bl i :: ds => (blsD ds).map (i :: ·)
  | _ :: _ => none
/-- stored: a new list is everybody's from now on; one's own can't be -/
def fz : D → T D
  | .new xs => .ret (.lst xs)
  | .bor _ => .bad
  | d => .ret d
def ofO {a : Type} : Option a → T a
  | some x => .ret x
  | none => .bad
def lim : Nat := 16777216
def mulOk (i j : Int) : Bool := decide (-(2 ^ 64) < i ∧ i < 2 ^ 64) || decide (-(2 ^ 64) < j ∧ j < 2 ^ 64)
/-- lexicographic < of lists of integers -/
def lexLt : List Int → List Int → Bool := HT.lexLt

def lenIf (n : Nat) (d : D) : T D := if n ≤ lim then .ret d else .bad
def addT : D → D → T D
  | .int i, .int j => .ret (.int (i + j))
  | .tup xs, .tup ys => lenIf (xs.length + ys.length) (.tup (xs ++ ys))
  | .lst xs, .lst ys => lenIf (xs.length + ys.length) (.new (xs ++ ys))
  | .new xs, .lst ys => lenIf (xs.length + ys.length) (.new (xs ++ ys))
  | .lst xs, .new ys => lenIf (xs.length + ys.length) (.new (xs ++ ys))
  | .new xs, .new ys => lenIf (xs.length + ys.length) (.new (xs ++ ys))
  | .bor xs, .new ys => lenIf (xs.length + ys.length) (.new (xs ++ ys))
  | .bor xs, .lst ys => lenIf (xs.length + ys.length) (.new (xs ++ ys))
  | _, _ => .bad
def subT : D → D → T D
  | .int i, .int j => .ret (.int (i - j))
  | _, _ => .bad
def mulT : D → D → T D
  | .int i, .int j => if mulOk i j = true then .ret (.int (i * j)) else .bad
  | .tup xs, .int k => if xs ≠ [] ∧ xs.length ≤ 1000 ∧ 2 ≤ k ∧ k ≤ 1000 then .ret (.tup (List.replicate k.toNat xs).flatten) else .bad
  | .lst xs, .int k => if xs.length ≤ 1000 ∧ 0 ≤ k ∧ k ≤ 1000 then .ret (.new (List.replicate k.toNat xs).flatten) else .bad
  | .bor xs, .int k => if xs.length ≤ 1000 ∧ 0 ≤ k ∧ k ≤ 1000 then .ret (.new (List.replicate k.toNat xs).flatten) else .bad
  | .new xs, .int k => if xs.length ≤ 1000 ∧ 0 ≤ k ∧ k ≤ 1000 then .ret (.new (List.replicate k.toNat xs).flatten) else .bad
  | _, _ => .bad
def fdivT : D → D → T D
  | .int i, .int j => if 0 < j ∧ j < 2 ^ 200 then .ret (.int (i / j)) else .bad
  | _, _ => .bad
def modT : D → D → T D
  | .int i, .int j => if 0 < j then .ret (.int (i % j)) else .bad
  | _, _ => .bad
def powT : D → D → T D
  | .int i, .int j => if 0 ≤ j ∧ j ≤ 1000 ∧ i.natAbs < 2 ^ 64 then .ret (.int (i ^ j.toNat)) else .bad
  | _, _ => .bad
def binT : BOp → D → D → T D
  | .add => addT | .sub => subT | .mul => mulT | .fdiv => fdivT | .mod => modT | .pow => powT
def ltT : D → D → T Bool
  | .int i, .int j => .ret (decide (i < j))
  | .tup xs, .tup ys => match intsD xs, intsD ys with
    | some ns, some ms => .ret (lexLt ns ms)
    | _, _ => .bad
  | _, _ => .bad
def leT : D → D → T Bool
  | .int i, .int j => .ret (decide (i ≤ j))
  | _, _ => .bad
def gtT : D → D → T Bool
  | .int i, .int j => .ret (decide (j < i))
  | _, _ => .bad
def geT : D → D → T Bool
  | .int i, .int j => .ret (decide (j ≤ i))
  | _, _ => .bad
def isNon : D → T Bool
  | .non => .ret true
  | .bor _ => .bad | .new _ => .bad
  | _ => .ret false
def isB (a : D) (k : Bool) : T Bool := match a with
  | .bl j => .ret (decide (j = k))
  | _ => .bad
def isT (a b : D) : T Bool := match b with
  | .non => isNon a
  | .bl k => isB a k
  | _ => .bad
def isnT (a b : D) : T Bool := isT a b >>= fun k => .ret (!k)
def innT (x ys : D) : T Bool := match items ys with
    | some ds => if flat x = true ∧ ds.all flat = true then .ret (ds.any fun y => PyData.eqv y.toPy x.toPy) else .bad
    | none => .bad
def ninT (x ys : D) : T Bool := innT x ys >>= fun k => .ret (!k)
def neT (a b : D) : T Bool := deq a b >>= fun c => .ret (!c)
def cmpT : COp → D → D → T Bool
  | .lt => ltT | .le => leT | .gt => gtT | .ge => geT | .eq => deq | .ne => neT | .is => isT | .isn => isnT | .inn => innT | .nin => ninT
/-- xs[i] -/
def atD (xs : List D) (i : Int) : Option D := L2.atI xs i
def idxT : D → D → T D
  | .tup xs, .int i => ofO (atD xs i)
  | .lst xs, .int i => ofO (atD xs i)
  | .bor xs, .int i => ofO (atD xs i)
  | .new xs, .int i => ofO (atD xs i)
  | _, _ => .bad
def cutD (xs : List D) (lo hi : Option Int) : List D := (xs.drop (HT.sIx xs.length 0 lo)).take (HT.sIx xs.length xs.length hi - HT.sIx xs.length 0 lo)
def slcT : D → Option Int → Option Int → T D
  | .tup xs, lo, hi => .ret (.tup (cutD xs lo hi))
  | .lst xs, lo, hi => .ret (.new (cutD xs lo hi))
  | .bor xs, lo, hi => .ret (.new (cutD xs lo hi))
  | .new xs, lo, hi => .ret (.new (cutD xs lo hi))
  | _, _, _ => .bad
def maxL : List Int → Option Int
  | [] => none
  | x :: xs => some (xs.foldl max x)
def minL : List Int → Option Int
  | [] => none
  | x :: xs => some (xs.foldl min x)
def insI (x : Int) : List Int → List Int
  | [] => [x]
  | y :: ys => if x ≤ y then x :: y :: ys else y :: insI x ys
def sortI : List Int → List Int
  | [] => []
  | x :: xs => insI x (sortI xs)
def seqL : D → Option (List D)
  | .lst xs => some xs | .bor xs => some xs | .new xs => some xs | _ => none
def seqI (d : D) : Option (List Int) := (seqL d).bind intsD
def seqB (d : D) : Option (List Bool) := (seqL d).bind blsD
def itemsI (d : D) : Option (List Int) := (items d).bind intsD
def absB : List D → T D
  | [.int i] => .ret (.int (if i < 0 then -i else i))
  | _ => .bad
def maxB : List D → T D
  | [.int i, .int j] => .ret (.int (if j > i then j else i))
  | [d] => match (itemsI d).bind maxL with
    | some m => .ret (.int m)
    | none => .bad
  | _ => .bad
def minB : List D → T D
  | [.int i, .int j] => .ret (.int (if j < i then j else i))
  | [d] => match (itemsI d).bind minL with
    | some m => .ret (.int m)
    | none => .bad
  | _ => .bad
def lenB : List D → T D
  | [d] => match items d with
    | some ds => .ret (.int ds.length)
    | none => .bad
  | _ => .bad
def sumB : List D → T D
  | [d] => match (items d).bind intsD with
    | some ns => .ret (.int ns.sum)
    | none => .bad
  | _ => .bad
def allB : List D → T D
  | [d] => match seqB d with
    | some ns => .ret (.bl (ns.all id))
    | none => .bad
  | _ => .bad
def anyB : List D → T D
  | [d] => match seqB d with
    | some ns => .ret (.bl (ns.any id))
    | none => .bad
  | _ => .bad
def sortedB : List D → T D
  | [d] => match seqI d with
    | some ns => if ns.length < 64 then .ret (.new ((sortI ns).map D.int)) else .bad
    | none => .bad
  | _ => .bad
def listB : List D → T D
  | [d] => match items d with
    | some ds => .ret (.new ds)
    | none => .bad
  | _ => .bad
def tupleB : List D → T D
  | [d] => match items d with
    | some ds => .ret (.tup ds)
    | none => .bad
  | _ => .bad
def intB : List D → T D
  | [.int i] => .ret (.int i)
  | _ => .bad
def isKind (k : D → Option Bool) : List D → T D
  | [d] => match k d with
    | some b => .ret (.bl b)
    | none => .bad
  | _ => .bad
def kInt : D → Option Bool
  | .int _ => some true | .bl _ => some true | .non => some false | .str _ => some false | .tup _ => some false | .lst _ => some false | .emp => some false | _ => none
def kBool : D → Option Bool
  | .int _ => some false | .bl _ => some true | .non => some false | .str _ => some false | .tup _ => some false | .lst _ => some false | .emp => some false | _ => none
def kTup : D → Option Bool
  | .int _ => some false | .bl _ => some false | .non => some false | .str _ => some false | .tup _ => some true | .lst _ => some false | .emp => some false | _ => none
def kLst : D → Option Bool
  | .int _ => some false | .bl _ => some false | .non => some false | .str _ => some false | .tup _ => some false | .lst _ => some true | .emp => some false | _ => none
def kStr : D → Option Bool
  | .int _ => some false | .bl _ => some false | .non => some false | .str _ => some true | .tup _ => some false | .lst _ => some false | .emp => some false | _ => none
def gcdB : List D → T D
  | [.int i, .int j] => .ret (.int ((Nat.gcd i.natAbs j.natAbs : Nat) : Int))
  | _ => .bad
def combB : List D → T D
  | [.int i, .int j] => if 0 ≤ i ∧ 0 ≤ j ∧ i ≤ 18000 then .ret (.int (PySem.W.mcComb i j)) else .bad
  | _ => .bad
def strB : List D → T D
  | [.int i] => if i.natAbs < 2 ^ 200 then .ret (.str (toString i)) else .bad
  | _ => .bad
def op0T : O0 → T D
  | .emp => .ret .emp
def op1T : O1 → D → T D
  | .rev, .tup xs => .ret (.tup xs.reverse)
  | .rev, .lst xs => .ret (.new xs.reverse)
  | .rev, .bor xs => .ret (.new xs.reverse)
  | .rev, .new xs => .ret (.new xs.reverse)
  | _, _ => .bad
def bltT : Blt → List D → T D
  | .abs => absB | .max => maxB | .min => minB | .len => lenB | .sum => sumB | .all => allB | .any => anyB | .sorted => sortedB | .list => listB | .tuple => tupleB | .int => intB
  | .isint => isKind kInt | .isbool => isKind kBool | .istup => isKind kTup | .islst => isKind kLst | .isstr => isKind kStr | .gcd => gcdB | .comb => combB | .str => strB

/-- put in another order -/
def permL {a : Type} : List Nat → List a → Option (List a)
  | [], _ => some []
  | i :: is, xs => match xs[i]?, permL is xs with
    | some x, some ys => some (x :: ys)
    | _, _ => none
def permD {a : Type} (perm : List Nat) (xs : List a) : Option (List a) := if xs.length = perm.length then permL perm xs else none
def permM {a : Type} (m : Nat) (perm : List Nat) (xs ys : List a) : Option (List a) := if xs.length = m then permD perm (xs ++ ys) else none
/-! ### the frame -/
inductive Sl | un | val (d : D) | own (xs : List D) | fns (tag : Nat)
abbrev Env := List Sl
def getV (r : Env) (i : Nat) : T D := match r[i]? with
  | some (.val d) => .ret d
  | some (.own xs) => .ret (.bor xs)
  | _ => .bad
def wipeE (r : Env) : List Nat → Env
  | [] => r
  | v :: vs => (wipeE r vs).set v .un
/-- stored: a new list is one's own -/
def slO : D → Option Sl
  | .new xs => some (.own xs)
  | .bor _ => none
  | d => some (.val d)
def slOf (d : D) : T Sl := ofO (slO d)
def parT : List Nat → List D → Env → Option Env
  | [], [], r => some r
  | i :: is, d :: ds, r => match slO d with
    | some s => parT is ds (r.set i s)
    | none => none
  | _, _, _ => none
def setAll : List Nat → List D → Env → Option Env
  | [], [], r => some r
  | i :: is, d :: ds, r => setAll is ds (r.set i (.val d))
  | _, _, _ => none
def bindTg : Tg → D → Env → T Env
  | .nm i, d, r => .ret (r.set i (.val d))
  | .tp is, .tup ds, r => ofO (setAll is ds r)
  | _, _, _ => .bad
def rngI (lo hi : Int) : T (List D) := if decide (-(2 ^ 62) ≤ lo ∧ lo < 2 ^ 62 ∧ -(2 ^ 62) ≤ hi ∧ hi < 2 ^ 62 ∧ (hi - lo).toNat ≤ lim) then .ret ((List.range (hi - lo).toNat).map fun k => .int (lo + (k : Nat))) else .bad
/-- no error leaves a comprehension -/
def noErr {a : Type} : T a → T a
  | .ret x => .ret x
  | .err _ => .bad
  | .bad => .bad
  | .draw n k => .draw n fun d => noErr (k d)
theorem noErr_all {a : Type} {P : Nat → a → Prop} {E F : Nat → Nat → Prop} {t : T a} {m : Nat} (h : (noErr t).All P E m) : t.All P F m := by
  induction t generalizing m with
  | ret x => exact h
  | err c => exact h.elim
  | bad => exact h
  | draw n k ih => exact ⟨h.1, fun d h0 h1 m' h2 h3 => ih d (h.2 d h0 h1 m' h2 h3)⟩
def compL (f : D → T (Option D)) : List D → T (List D)
  | [] => .ret []
  | d :: ds => f d >>= fun o => compL f ds >>= fun r => .ret (match o with | some y => y :: r | none => r)
def frozen : D → Option (List D)
  | .tup xs => some xs | .lst xs => some xs | .new xs => some xs | .scr ns => some (ns.map D.int) | _ => none
def frozenL : D → Option (List D)
  | .lst xs => some xs | .new xs => some xs | _ => none
def enumD : Nat → List D → List D
  | _, [] => []
  | i, d :: ds => .tup [.int (i : Nat), d] :: enumD (i + 1) ds
def zipD : D → D → Option (List D)
  | .tup xs, .tup ys => some ((xs.zip ys).map fun p => .tup [p.1, p.2])
  | a, b => match frozenL a, frozenL b with
    | some xs, some ys => some ((xs.zip ys).map fun p => .tup [p.1, p.2])
    | _, _ => none

/-- an error kept as a value, None for an answer -/
def catchT (nx : Nat) : T D → T D
  | .ret _ => .ret .non
  | .err c => if c < nx then .ret (.exc c) else .bad
  | .bad => .bad
  | .draw n k => .draw n fun d => catchT nx (k d)
theorem catch_all {nx : Nat} {P : Nat → D → Prop} {E : Nat → Nat → Prop} {t : T D} {m : Nat} (h : (catchT nx t).All P E m) : t.All (fun m _ => P m .non) (fun m c => c < nx ∧ P m (.exc c)) m := by
  induction t generalizing m with
  | ret x => exact h
  | err c =>
    have h : (if c < nx then T.ret (D.exc c) else .bad).All P E m := h
    split at h
    · rename_i q; exact ⟨q, h⟩
    · exact h.elim
  | bad => exact h
  | draw n k ih => exact ⟨h.1, fun d h0 h1 m' h2 h3 => ih d (h.2 d h0 h1 m' h2 h3)⟩
/-- isinstance of an own class -/
def isxT (nx k : Nat) : D → T D
  | .exc c => if c < nx then .ret (.bl (decide (c = k))) else .bad
  | .non => .ret (.bl false)
  | _ => .bad

section
variable (call : Nat → List D → T D)
/-- what a term is: as a value, as a test, as arguments (stored; looked at), as a part of a slice, as what is walked -/
structure Sx where
  E : Env → T D
  B : Env → T Bool
  A : Env → T (List D)
  R : Env → T (List D)
  O : Env → T (Option Int)
  I : Env → T (List D)
def toB (v : D) : T Bool := match v with
  | .bl k => .ret k
  | _ => .bad
def badR {a : Type} : Env → T a := fun _ => .bad
def ofE (e : Env → T D) : Sx := ⟨e, fun r => e r >>= toB, badR, badR, badR, fun r => e r >>= fun v => ofO (frozen v)⟩
def negT (x : D) : T D := match x with
  | .int i => .ret (.int (-i))
  | _ => .bad
def notT (x : D) : T D := match x with
  | .bl b => .ret (.bl (!b))
  | _ => .bad
def andT (x : D) (t : T D) : T D := match x with
  | .bl true => t
  | .bl false => .ret (.bl false)
  | _ => .bad
def orT (x : D) (t : T D) : T D := match x with
  | .bl true => .ret (.bl true)
  | .bl false => t
  | _ => .bad
def partT (x : D) : T (Option Int) := match x with
  | .int i => .ret (some i)
  | _ => .bad
def rng1T (x : D) : T (List D) := match x with
  | .int j => rngI 0 j
  | _ => .bad
def rng2T (x y : D) : T (List D) := match x, y with
  | .int i, .int j => rngI i j
  | _, _ => .bad
def lenT (ds : List D) (d : D) : T D := if ds.length ≤ 1000 then .ret d else .bad
/-- a comprehension's turn -/
def compF (tg : Tg) (ws : List Nat) (b : Env → T Bool) (e : Env → T D) (r : Env) (d : D) : T (Option D) :=
  bindTg tg d (wipeE r ws) >>= fun r2 => b r2 >>= fun k => if k = true then e r2 >>= fun y => fz y >>= fun y => .ret (some y) else .ret none
/-- it must be so -/
def mustT (d : D) : T D := match d with
  | .bl true => .ret (.bl true)
  | _ => .bad
def strsL : List Str → List D → Bool
  | [], [] => true
  | x :: xs, .str y :: ds => decide (x = y) && strsL xs ds
  | _, _ => false
/-- the list of just these texts -/
def isStrs (ss : List Str) (d : D) : Bool := match d with
  | .lst ds => strsL ss ds
  | .new ds => strsL ss ds
  | _ => false
def fnsAt (r : Env) (i tag : Nat) : Bool := match r[i]? with
  | some (.fns t) => decide (t = tag)
  | _ => false
def evs : X → Sx
  | .non => ofE fun _ => .ret .non
  | .bl b => ofE fun _ => .ret (.bl b)
  | .int i => ofE fun _ => .ret (.int i)
  | .str x => ofE fun _ => .ret (.str x)
  | .var i => ofE fun r => getV r i
  | .con _ i => ofE fun _ => .ret (.int i)
  | .bin op a b => ofE fun r => (evs a).E r >>= fun x => (evs b).E r >>= fun y => binT op x y
  | .neg a => ofE fun r => (evs a).E r >>= negT
  | .cmp op a b => ofE fun r => (evs a).E r >>= fun x => (evs b).E r >>= fun y => cmpT op x y >>= fun c => .ret (.bl c)
  | .chain o p a b c => ofE fun r => (evs a).E r >>= fun x => (evs b).E r >>= fun y => cmpT o x y >>= fun k => if k = true then (evs c).E r >>= fun z => cmpT p y z >>= fun k => .ret (.bl k) else .ret (.bl false)
  | .chain3 o p q a b c d => ofE fun r => (evs a).E r >>= fun x => (evs b).E r >>= fun y => cmpT o x y >>= fun k => if k = true then (evs c).E r >>= fun z => cmpT p y z >>= fun k => if k = true then (evs d).E r >>= fun u => cmpT q z u >>= fun k => .ret (.bl k) else .ret (.bl false) else .ret (.bl false)
  | .lrng a b => ofE fun r => (evs a).E r >>= fun x => (evs b).E r >>= fun y => rng2T x y >>= fun ds => .ret (.new ds)
  | .and a b => ⟨fun r => (evs a).E r >>= fun x => andT x ((evs b).E r), fun r => (evs a).B r >>= fun k => if k = true then (evs b).B r else .ret false, badR, badR, badR, badR⟩
  | .or a b => ⟨fun r => (evs a).E r >>= fun x => orT x ((evs b).E r), fun r => (evs a).B r >>= fun k => if k = true then .ret true else (evs b).B r, badR, badR, badR, badR⟩
  | .not a => ⟨fun r => (evs a).E r >>= notT, fun r => (evs a).B r >>= fun k => .ret (!k), badR, badR, badR, badR⟩
  | .ite t a b => ofE fun r => (evs t).B r >>= fun k => if k = true then (evs a).E r else (evs b).E r
  | .tup as => ofE fun r => (evs as).A r >>= fun ds => lenT ds (.tup ds)
  | .lst as => ofE fun r => (evs as).A r >>= fun ds => lenT ds (.new ds)
  | .nil => ⟨badR, badR, fun _ => .ret [], fun _ => .ret [], badR, badR⟩
  | .cons a as => ⟨badR, badR, fun r => (evs a).E r >>= fun x => fz x >>= fun x => (evs as).A r >>= fun xs => .ret (x :: xs), fun r => (evs a).E r >>= fun x => (evs as).R r >>= fun xs => .ret (x :: xs), badR, badR⟩
  | .idx a i => ofE fun r => (evs a).E r >>= fun x => (evs i).E r >>= fun y => idxT x y
  | .slc a lo hi => ofE fun r => (evs a).E r >>= fun x => (evs lo).O r >>= fun l => (evs hi).O r >>= fun h => slcT x l h
  | .part a => ⟨badR, badR, badR, badR, fun r => (evs a).E r >>= partT, badR⟩
  | .nopart => ⟨badR, badR, badR, badR, fun _ => .ret none, badR⟩
  | .call f as => ofE fun r => (evs as).A r >>= fun ds => call f ds
  | .callK f perm as => ofE fun r => (evs as).A r >>= fun ds => ofO (permD perm ds) >>= fun ds => call f ds
  | .op0 o => ofE fun _ => op0T o
  | .op1 o a => ofE fun r => (evs a).E r >>= op1T o
  | .callM f m perm as bs => ofE fun r => (evs as).A r >>= fun ds => (evs bs).A r >>= fun es => ofO (permM m perm ds es) >>= fun ds => call f ds
  | .blt f as => ofE fun r => (evs as).R r >>= fun ds => bltT f ds
  | .isk f a => ofE fun r => (evs a).E r >>= fun x => bltT f [x]
  | .comp tg it cond elt own => ofE fun r => (evs it).I r >>= fun ds => noErr (compL (compF tg (own.map (·.2)) (evs cond).B (evs elt).E r) ds) >>= fun ys => .ret (.new ys)
  | .caught nx a => ofE fun r => catchT nx ((evs a).E r)
  | .isx nx k a => ofE fun r => (evs a).E r >>= isxT nx k
  | .must a => ofE fun r => (evs a).E r >>= mustT
  | .errs i tag ss ks st => ofE fun r => if fnsAt r i tag = true then (evs st).E r >>= fun sd => if isStrs ss sd = true then (evs ks).A r >>= fun _ => .ret (.bl true) else .bad else .bad
  | .yes => ⟨badR, fun _ => .ret true, badR, badR, badR, badR⟩
  | .cap a => ⟨badR, badR, badR, badR, badR, fun r => (evs a).I r >>= fun ds => if ds.length ≤ lim then .ret ds else .bad⟩
  | .rng1 a => ⟨badR, badR, badR, badR, badR, fun r => (evs a).E r >>= rng1T⟩
  | .rng2 a b => ⟨badR, badR, badR, badR, badR, fun r => (evs a).E r >>= fun x => (evs b).E r >>= fun y => rng2T x y⟩
  | .zip a b => ⟨badR, badR, badR, badR, badR, fun r => (evs a).E r >>= fun x => (evs b).E r >>= fun y => ofO (zipD x y)⟩
  | .enum a => ⟨badR, badR, badR, badR, badR, fun r => (evs a).E r >>= fun x => ofO ((frozenL x).map (enumD 0))⟩
def ev (x : X) (r : Env) : T D := (evs call x).E r
def evT (x : X) (r : Env) : T Bool := (evs call x).B r
def evA (x : X) (r : Env) : T (List D) := (evs call x).A r
def evR (x : X) (r : Env) : T (List D) := (evs call x).R r
def evO (x : X) (r : Env) : T (Option Int) := (evs call x).O r
def evI (x : X) (r : Env) : T (List D) := (evs call x).I r

/-! ### statements -/
inductive Fl | nx (r : Env) | rt (d : D) | bk (r : Env) | ct (r : Env)
def forL (set : D → Env → T Env) (body : Env → T Fl) : List D → Env → T Fl
  | [], r => .ret (.nx r)
  | d :: ds, r => set d r >>= fun r1 => body r1 >>= fun fl => match fl with
    | .nx r2 => forL set body ds r2
    | .ct r2 => forL set body ds r2
    | .bk r2 => .ret (.nx r2)
    | .rt v => .ret (.rt v)
def whileL (test : Env → T Bool) (body : Env → T Fl) : Nat → Env → T Fl
  | 0, _ => .bad
  | n + 1, r => test r >>= fun k => if k = true then body r >>= fun fl => match fl with
    | .nx r2 => whileL test body n r2
    | .ct r2 => whileL test body n r2
    | .bk r2 => .ret (.nx r2)
    | .rt v => .ret (.rt v) else .ret (.nx r)
variable (wh : Nat)
def ex : S → Env → T Fl
  | .nil, r => .ret (.nx r)
  | .cons s t, r => ex s r >>= fun fl => match fl with
    | .nx r2 => ex t r2
    | f => .ret f
  | .asg i e, r => ev call e r >>= fun d => slOf d >>= fun s => .ret (.nx (r.set i s))
  | .asgF i e, r => ev call e r >>= fun d => fz d >>= fun d => .ret (.nx (r.set i (.val d)))
  | .asgT is e, r => ev call e r >>= fun d => match d with
    | .tup ds => ofO (setAll is ds r) >>= fun r2 => .ret (.nx r2)
    | _ => .bad
  | .par is es, r => evR call es r >>= fun ds => ofO (parT is ds r) >>= fun r2 => .ret (.nx r2)
  | .expr e, r => ev call e r >>= fun _ => .ret (.nx r)
  | .app i e, r => match r[i]? with
    | some (.own xs) => if xs.length < lim then ev call e r >>= fun d => fz d >>= fun d => .ret (.nx (r.set i (.own (xs ++ [d])))) else .bad
    | _ => .bad
  | .sset i ix e, r => match r[i]? with
    | some (.own xs) => ev call e r >>= fun d => fz d >>= fun d => ev call ix r >>= fun k => match k with
      | .int k => match L2.ixN xs.length k with
        | some j => .ret (.nx (r.set i (.own (xs.set j d))))
        | none => .bad
      | _ => .bad
    | _ => .bad
  | .iff t a b, r => evT call t r >>= fun k => if k = true then ex a r else ex b r
  | .for_ tg it body, r => evI call it r >>= fun ds => forL (bindTg tg) (ex body) ds r
  | .while_ t body, r => whileL (evT call t) (ex body) wh r
  | .ret (.var i), r => match r[i]? with
    | some (.own xs) => .ret (.rt (.new xs))
    | some (.val d) => .ret (.rt d)
    | _ => .bad
  | .ret e, r => ev call e r >>= fun d => match d with
    | .bor _ => .bad
    | d => .ret (.rt d)
  | .retN, _ => .ret (.rt .non)
  | .raise c, _ => .err c
  | .frz i, r => match r[i]? with
    | some (.own xs) => .ret (.nx (r.set i (.val (.lst xs))))
    | some (.val d) => .ret (.nx r)
    | _ => .bad
  | .brk, r => .ret (.bk r)
  | .cont, r => .ret (.ct r)
  | .pass, r => .ret (.nx r)
  | .lams i tag, r => .ret (.nx (r.set i (.fns tag)))
end

/-! ### a program -/
structure Df where
  name : Str
  ps : List Str
  N : List Str
  body : S
def startE (N : List Str) (ds : List D) : Env := ds.map Sl.val ++ List.replicate (N.length - ds.length) Sl.un
def runD (call : Nat → List D → T D) (wh : Nat) (d : Df) (ds : List D) : T D :=
  if ds.length = d.ps.length then ex call wh d.body (startE d.N ds) >>= fun fl => match fl with
    | .rt v => .ret v
    | .nx _ => .ret .non
    | _ => .bad
  else .bad
/-- _law_draw -/
def drawP : List D → T D
  | [.sta, .int k] => if decide (0 < k ∧ k < 2 ^ 200) then .draw k fun d => .ret (.int d) else .bad
  | _ => .bad
abbrev Tab := List (Nat × Df)
def callF (P : Tab) (wh : Nat) : Nat → Nat → List D → T D
  | 0, _, _ => .bad
  | n + 1, 0, ds => if n = 0 then .bad else drawP ds
  | n + 1, k + 1, ds => match P.lookup (k + 1) with
    | some d => runD (callF P wh n) wh d ds
    | none => .bad
end PV
end
section
set_option maxHeartbeats 4000000
/-! PvS1: how plain data lies in the heap; operators. -/
namespace PV
open PySem PySem.Spec PyProof.Rows L2

/-- an exception of the class cls, kept -/
def ExV (cls : Value) (a : Addr) : HO := .ext fun h => ∃ (oe : Obj) (vs : Array Value), h.get? a = some oe ∧ Zc cls none oe ∧ oe.data = .fields vs
/-- what is fixed through a law -/
structure G where
  P : Program
  w : World
  K : PySem.W.Frag
  mg : Str → Option Value
  base : Heap
  F : Addr → Prop
  st : Addr
  good : Hp → Prop
  cad : Nat → Addr
  bud : Hp → Nat
  gob : ∀ H H', good H → (∀ a, F a → H' a = H a) → bud H' = bud H
  gof : ∀ H H', good H → (∀ a, F a → H' a = H a) → (∀ a f, H a = some (.ext f) → H' a = some (.ext f)) → (∀ a ps, H' a = some (.tbl ps) → H a = some (.tbl ps)) → good H'
  T : List (Addr × Str)
  gtb : ∀ H, good H → LamX.Tabs T H
  gtF : ∀ H a ps, good H → H a = some (.tbl ps) → F a
  Hs : Hp
  gts : ∀ H a ps, good H → Hs a = some (.tbl ps) → ∃ ps', H a = some (.tbl ps')
  gln : ∀ H H1, T ≠ [] → good H → LamX.ExtN H H1 → LamX.Tabs T H1 → (∀ a ps, H1 a = some (.tbl ps) → ∃ ps', H a = some (.tbl ps')) → (∀ a ps, Hs a = some (.tbl ps) → ∃ ps', H1 a = some (.tbl ps')) → good H1 ∧ bud H1 = bud H
  gff : ∀ H a, good H → F a → ∃ o, H a = some o
  gfx : ∀ H a φ, good H → H a = some (.ext φ) → ¬ F a
/-- the same, with what one frame's lambdas are -/
structure GF extends G where
  cl : List (Str × Addr)
  q : Str
  lk : X → Arguments → Expr → Scope → Prop
  lt : Nat → Option (List X)
instance : CoeOut GF G := ⟨GF.toG⟩
variable {g : G}
abbrev Sub (Z H : Hp) : Prop := ∀ a o, Z a = some o → H a = some o
mutual
inductive Rep (g : G) (Z : Hp) : V → D → Prop
  | non : Rep g Z .non .non
  | bl (b : Bool) : Rep g Z (.bl b) (.bl b)
  | int (i : Int) : Rep g Z (.int i) (.int i)
  | str (x : Str) : Rep g Z (.str x) (.str x)
  | tup {a : Addr} {vs : List V} {ds : List D} : Z a = some (.tup vs) → vs.length ≤ sizeLine → Reps g Z vs ds → Rep g Z (.ref a) (.tup ds)
  | lst {a : Addr} {vs : List V} {ds : List D} : Z a = some (.lst vs) → vs.length ≤ sizeLine → Reps g Z vs ds → Rep g Z (.ref a) (.lst ds)
  | emp {a : Addr} : Z a = some (.dK []) → Rep g Z (.ref a) .emp
  | scr {a : Addr} {ns : List Int} : SqL g.K Z a (ns.map V.int) → ns.length ≤ 63 → Rep g Z (.ref a) (.scr ns)
  | sta : Rep g Z (.ref g.st) .sta
  | exc {a : Addr} {c : Nat} : Z a = some (ExV (.ref (g.cad c)) a) → Rep g Z (.ref a) (.exc c)
inductive Reps (g : G) (Z : Hp) : List V → List D → Prop
  | nil : Reps g Z [] []
  | cons {v : V} {vs : List V} {d : D} {ds : List D} : Rep g Z v d → Reps g Z vs ds → Reps g Z (v :: vs) (d :: ds)
end
theorem sq_sub {K : PySem.W.Frag} {Z H : Hp} {a : Addr} {xs : List V} (e : Sub Z H) (h : SqL K Z a xs) : SqL K H a xs := by
  rcases h with (h | ⟨o, h⟩) | h
  · exact .inl (.inl (e _ _ h))
  · exact .inl (.inr ⟨o, e _ _ h⟩)
  · exact .inr h
mutual
theorem Rep.mono {Z Z' : Hp} (e : Sub Z Z') : ∀ {v : V} {d : D}, Rep g Z v d → Rep g Z' v d
  | _, _, .non => .non
  | _, _, .bl b => .bl b
  | _, _, .int i => .int i
  | _, _, .str x => .str x
  | _, _, .tup h l r => .tup (e _ _ h) l (Reps.mono e r)
  | _, _, .lst h l r => .lst (e _ _ h) l (Reps.mono e r)
  | _, _, .emp h => .emp (e _ _ h)
  | _, _, .scr h l => .scr (sq_sub e h) l
  | _, _, .sta => .sta
  | _, _, .exc h => .exc (e _ _ h)
theorem Reps.mono {Z Z' : Hp} (e : Sub Z Z') : ∀ {vs : List V} {ds : List D}, Reps g Z vs ds → Reps g Z' vs ds
  | _, _, .nil => .nil
  | _, _, .cons r t => .cons (Rep.mono e r) (Reps.mono e t)
end
theorem Reps.length {Z : Hp} : ∀ {vs : List V} {ds : List D}, Reps g Z vs ds → vs.length = ds.length
  | _, _, .nil => rfl
  | _, _, .cons _ t => congrArg Nat.succ (Reps.length t)
theorem Reps.append {Z : Hp} : ∀ {vs ws : List V} {ds es : List D}, Reps g Z vs ds → Reps g Z ws es → Reps g Z (vs ++ ws) (ds ++ es)
  | _, _, _, _, .nil, s => s
  | _, _, _, _, .cons r t, s => .cons r (Reps.append t s)
theorem Reps.take {Z : Hp} : ∀ {vs : List V} {ds : List D} (n : Nat), Reps g Z vs ds → Reps g Z (vs.take n) (ds.take n)
  | _, _, 0, _ => .nil
  | _, _, _ + 1, .nil => .nil
  | _, _, n + 1, .cons r t => .cons r (Reps.take n t)
theorem Reps.drop {Z : Hp} : ∀ {vs : List V} {ds : List D} (n : Nat), Reps g Z vs ds → Reps g Z (vs.drop n) (ds.drop n)
  | _, _, 0, r => r
  | _, _, _ + 1, .nil => .nil
  | _, _, n + 1, .cons _ t => Reps.drop n t
theorem Reps.get {Z : Hp} : ∀ {vs : List V} {ds : List D} {i : Nat} {d : D}, Reps g Z vs ds → ds[i]? = some d → ∃ v, vs[i]? = some v ∧ Rep g Z v d
  | _, _, _, _, .nil, e => by simp at e
  | _, _, 0, _, .cons r _, e => by simp at e; subst e; exact ⟨_, rfl, r⟩
  | _, _, i + 1, d, .cons _ t, e => by
    obtain ⟨v, h1, h2⟩ := Reps.get (i := i) (d := d) t (by simpa using e)
    exact ⟨v, by simpa using h1, h2⟩
theorem Reps.set {Z : Hp} {v : V} {d : D} (r : Rep g Z v d) : ∀ {vs : List V} {ds : List D} (i : Nat), Reps g Z vs ds → Reps g Z (vs.set i v) (ds.set i d)
  | _, _, _, .nil => .nil
  | _, _, 0, .cons _ t => .cons r t
  | _, _, i + 1, .cons q t => .cons q (Reps.set r i t)
theorem Reps.rep {Z : Hp} {vs : List V} {ds : List D} (h : Reps g Z vs ds) : ∀ k : Nat, Reps g Z (List.replicate k vs).flatten (List.replicate k ds).flatten
  | 0 => .nil
  | k + 1 => by
    rw [List.replicate_succ, List.replicate_succ, List.flatten_cons, List.flatten_cons]
    exact h.append (Reps.rep h k)
theorem Reps.intsI {Z : Hp} : ∀ {vs : List V} {ds : List D} {ns : List Int}, Reps g Z vs ds → intsD ds = some ns → vs = ns.map V.int
  | _, _, ns, .nil, e => by cases e; rfl
  | _, d :: ds, ns, .cons r t, e => by
    cases d <;> simp [intsD] at e
    rename_i i
    obtain ⟨ms, h1, h2⟩ := e
    subst h2
    cases r
    rw [List.map_cons, Reps.intsI t h1]
theorem Reps.blsI {Z : Hp} : ∀ {vs : List V} {ds : List D} {ns : List Bool}, Reps g Z vs ds → blsD ds = some ns → vs = ns.map V.bl
  | _, _, ns, .nil, e => by cases e; rfl
  | _, d :: ds, ns, .cons r t, e => by
    cases d <;> simp [blsD] at e
    rename_i i
    obtain ⟨ms, h1, h2⟩ := e
    subst h2
    cases r
    rw [List.map_cons, Reps.blsI t h1]
theorem Reps.ofInts {Z : Hp} : ∀ (ns : List Int), Reps g Z (ns.map V.int) (ns.map D.int)
  | [] => .nil
  | n :: ns => .cons (.int n) (Reps.ofInts ns)

/-- from one moment to a later one -/
structure Step (g : G) (Z H Z' H' : Hp) : Prop where
  z : Sub Z Z'
  zh : Sub Z' H'
  h : ∀ a o, H a = some o → ¬ g.F a → H' a = some o
  new : ∀ a o, Z' a = some o → Z a = some o ∨ H a = none
  zf : ∀ a, g.F a → Z' a = none
  good : g.good H'
structure Pre (g : G) (Z H : Hp) : Prop where
  zh : Sub Z H
  zf : ∀ a, g.F a → Z a = none
  good : g.good H
theorem Step.pre {Z H Z' H' : Hp} (s : Step g Z H Z' H') : Pre g Z' H' := ⟨s.zh, s.zf, s.good⟩
theorem Step.refl {Z H : Hp} (p : Pre g Z H) : Step g Z H Z H := ⟨fun _ _ h => h, p.zh, fun _ _ h _ => h, fun _ _ h => .inl h, p.zf, p.good⟩
theorem none_or {H : Hp} {a : Addr} : H a = none ∨ ∃ o, H a = some o := by
  cases H a with
  | none => exact .inl rfl
  | some o => exact .inr ⟨o, rfl⟩
theorem Step.trans {Z H Z1 H1 Z2 H2 : Hp} (s : Step g Z H Z1 H1) (t : Step g Z1 H1 Z2 H2) : Step g Z H Z2 H2 where
  z := fun a o h => t.z a o (s.z a o h)
  zh := t.zh
  h := fun a o h f => t.h a o (s.h a o h f) f
  new := fun a o h => by
    rcases t.new a o h with q | q
    · exact s.new a o q
    · rcases none_or (H := H) (a := a) with e | ⟨u, e⟩
      · exact .inr e
      · by_cases f : g.F a
        · rw [t.zf a f] at h; cases h
        · rw [s.h a u e f] at q; cases q
  zf := t.zf
  good := t.good
theorem Pre.nF {Z H : Hp} (p : Pre g Z H) {a : Addr} (h : H a = none) : ¬ g.F a := fun f => by
  obtain ⟨o, e⟩ := g.gff H a p.good f
  rw [h] at e; cases e
theorem Pre.nZ {Z H : Hp} (p : Pre g Z H) {a : Addr} (h : H a = none) : Z a = none := by
  rcases none_or (H := Z) (a := a) with e | ⟨u, e⟩
  · exact e
  · rw [p.zh a u e] at h; cases h
theorem sub_new {Z : Hp} {a : Addr} {o : HO} (h : Z a = none) : Sub Z (upd Z a o) := fun b u e => by
  rw [upd_ne (ne_of_none e h)]
  exact e
theorem bud_upd {Z H : Hp} (p : Pre g Z H) {a : Addr} {o : HO} (h : ¬ g.F a) : g.bud (upd H a o) = g.bud H := g.gob H _ p.good fun b f => upd_ne (a := a) (b := b) fun e => h (by rw [← e]; exact f)
theorem good_upd {Z H : Hp} (p : Pre g Z H) {a : Addr} {o : HO} (h : ¬ g.F a) (hx : ∀ f, H a ≠ some (.ext f)) (ho : ∀ ps, o ≠ .tbl ps) : g.good (upd H a o) := by
  refine g.gof H _ p.good (fun b f => upd_ne (a := a) (b := b) fun e => h (by rw [← e]; exact f)) (fun b f e => ?_) fun b ps e => ?_
  · rw [upd_ne (a := a) (b := b) fun q => hx f (by rw [← q]; exact e)]; exact e
  · by_cases q : b = a
    · subst q; rw [upd_same] at e; cases e; exact absurd rfl (ho ps)
    · rw [upd_ne q] at e; exact e
/-- a new object, nobody's -/
theorem Step.newH {Z H : Hp} (p : Pre g Z H) {a : Addr} {o : HO} (h : H a = none) (ho : ∀ ps, o ≠ .tbl ps := by intro _ z; cases z) : Step g Z H Z (upd H a o) :=
  ⟨fun _ _ e => e, fun b u e => sub_new h b u (p.zh b u e), fun b u e _ => sub_new h b u e, fun _ _ e => .inl e, p.zf, good_upd p (p.nF h) (fun f z => by rw [h] at z; cases z) ho⟩
/-- a new object, everybody's -/
theorem Step.newZ {Z H : Hp} (p : Pre g Z H) {a : Addr} {o : HO} (h : H a = none) (ho : ∀ ps, o ≠ .tbl ps := by intro _ z; cases z) : Step g Z H (upd Z a o) (upd H a o) := by
  refine ⟨sub_new (p.nZ h), fun b u e => ?_, fun b u e _ => sub_new h b u e, fun b u e => ?_, fun b f => ?_, good_upd p (p.nF h) (fun f z => by rw [h] at z; cases z) ho⟩
  · by_cases hb : b = a
    · subst hb; rw [upd_same] at e ⊢; exact e
    · rw [upd_ne hb] at e ⊢; exact p.zh b u e
  · by_cases hb : b = a
    · subst hb; exact .inr h
    · rw [upd_ne hb] at e; exact .inl e
  · rw [upd_ne (a := a) (b := b) fun e => p.nF h (by rw [← e]; exact f)]
    exact p.zf b f
/-- a list that was new becomes everybody's -/
theorem Step.freeze {Z H Z' H' : Hp} (s : Step g Z H Z' H') {a : Addr} {o : HO} (h : H a = none) (h' : H' a = some o) (hz : Z' a = none) (nf : ¬ g.F a) : Step g Z H (upd Z' a o) H' := by
  refine ⟨fun b u e => sub_new hz b u (s.z b u e), fun b u e => ?_, s.h, fun b u e => ?_, fun b f => ?_, s.good⟩
  · by_cases hb : b = a
    · subst hb; rw [upd_same] at e; rw [h']; exact e
    · rw [upd_ne hb] at e; exact s.zh b u e
  · by_cases hb : b = a
    · subst hb; exact .inr h
    · rw [upd_ne hb] at e; exact s.new b u e
  · rw [upd_ne (a := a) (b := b) fun e => nf (by rw [← e]; exact f)]
    exact s.zf b f

/-- a lambda was made -/
theorem Step.lam {Z H H1 : Hp} (hT : g.T ≠ []) (p : Pre g Z H) (e : LamX.ExtN H H1) (t : LamX.Tabs g.T H1) (n : ∀ a ps, H1 a = some (.tbl ps) → ∃ ps', H a = some (.tbl ps')) (m : ∀ a ps, g.Hs a = some (.tbl ps) → ∃ ps', H1 a = some (.tbl ps')) : Step g Z H Z H1 ∧ g.bud H1 = g.bud H := by
  obtain ⟨h1, h2⟩ := g.gln H H1 hT p.good e t n m
  refine ⟨⟨fun _ _ z => z, fun a o z => e a o (p.zh a o z) fun ps q => ?_, fun a o z f => e a o z fun ps q => ?_, fun _ _ z => .inl z, p.zf, h1⟩, h2⟩
  · subst q
    rw [p.zf a (g.gtF H a ps p.good (p.zh a _ z))] at z
    cases z
  · subst q
    exact f (g.gtF H a ps p.good z)
/-- a value that was reckoned since H -/
def RepR (g : G) (H Z' H' : Hp) (v : V) : D → Prop
  | .bor xs => ∃ a vs, v = .ref a ∧ H' a = some (.lst vs) ∧ vs.length ≤ sizeLine ∧ ¬ g.F a ∧ Z' a = none ∧ Reps g Z' vs xs
  | .new xs => ∃ a vs, v = .ref a ∧ H' a = some (.lst vs) ∧ vs.length ≤ sizeLine ∧ ¬ g.F a ∧ Z' a = none ∧ H a = none ∧ Reps g Z' vs xs
  | .non => Rep g Z' v .non
  | .bl b => Rep g Z' v (.bl b)
  | .int i => Rep g Z' v (.int i)
  | .str x => Rep g Z' v (.str x)
  | .tup xs => Rep g Z' v (.tup xs)
  | .lst xs => Rep g Z' v (.lst xs)
  | .emp => Rep g Z' v .emp
  | .exc c => Rep g Z' v (.exc c)
  | .sta => Rep g Z' v .sta
  | .scr ns => Rep g Z' v (.scr ns)
theorem RepR.of {H Z' H' : Hp} {v : V} {d : D} (h : Rep g Z' v d) : RepR g H Z' H' v d := by
  cases d <;> first | exact h | cases h
theorem RepR.step {H Z1 H1 Z2 H2 : Hp} {v : V} {d : D} (r : RepR g H Z1 H1 v d) (s : Step g Z1 H1 Z2 H2) : RepR g H Z2 H2 v d := by
  have nz : ∀ a o, H1 a = some o → Z1 a = none → Z2 a = none := fun a o h hz => by
    rcases none_or (H := Z2) (a := a) with e | ⟨u, e⟩
    · exact e
    · rcases s.new a u e with q | q
      · rw [hz] at q; cases q
      · rw [h] at q; cases q
  cases d <;> first
    | exact Rep.mono s.z r
    | (obtain ⟨a, vs, rfl, h1, h2, h3, h4, h5, h6⟩ := r; exact ⟨a, vs, rfl, s.h _ _ h1 h3, h2, h3, nz _ _ h1 h4, h5, h6.mono s.z⟩)
    | (obtain ⟨a, vs, rfl, h1, h2, h3, h4, h6⟩ := r; exact ⟨a, vs, rfl, s.h _ _ h1 h3, h2, h3, nz _ _ h1 h4, h6.mono s.z⟩)
theorem RepR.back {H Z H1 Z1 Z2 H2 : Hp} {v : V} {d : D} (s : Step g Z H Z1 H1) (r : RepR g H1 Z2 H2 v d) : RepR g H Z2 H2 v d := by
  cases d <;> first
    | exact r
    | (obtain ⟨a, vs, rfl, h1, h2, h3, h4, h5, h6⟩ := r
       refine ⟨a, vs, rfl, h1, h2, h3, h4, ?_, h6⟩
       rcases none_or (H := H) (a := a) with e | ⟨u, e⟩
       · exact e
       · rw [s.h _ _ e h3] at h5; cases h5)
/-- stored -/
theorem fz_ok {Z H Z' H' : Hp} {v : V} {d : D} {P : Nat → D → Prop} {E : Nat → Nat → Prop} {m : Nat} (s : Step g Z H Z' H') (r : RepR g H Z' H' v d) (h : (fz d).All P E m) : ∃ d' Z2, P m d' ∧ Step g Z H Z2 H' ∧ Sub Z' Z2 ∧ Rep g Z2 v d' := by
  cases d <;> first
    | exact ⟨_, Z', h, s, fun _ _ e => e, r⟩
    | exact h.elim
    | (obtain ⟨a, vs, rfl, h1, h2, h3, h4, h5, h6⟩ := r
       exact ⟨_, upd Z' a (.lst vs), h, s.freeze h5 h1 h4 h3, sub_new h4, .lst upd_same h2 (h6.mono (sub_new h4))⟩)
/-- what stands behind -/
def Post (g : G) (Z H : Hp) (Q : VK) (m : Nat) (d : D) : Prop := ∀ v Z' H', Step g Z H Z' H' → g.bud H' = m → RepR g H Z' H' v d → Q v H'
def PostE (g : G) (Z H : Hp) (W : Nat → Hp → Prop) (m : Nat) (c : Nat) : Prop := ∀ Z' H', Step g Z H Z' H' → g.bud H' = m → W c H'
theorem Post.shift {Z H Z1 H1 : Hp} {Q : VK} {d : D} {m : Nat} (s : Step g Z H Z1 H1) (h : Post g Z H Q m d) : Post g Z1 H1 Q m d := fun v Z' H' t e r => h v Z' H' (s.trans t) e (r.back s)
theorem PostE.shift {Z H Z1 H1 : Hp} {W : Nat → Hp → Prop} {c : Nat} {m : Nat} (s : Step g Z H Z1 H1) (h : PostE g Z H W m c) : PostE g Z1 H1 W m c := fun Z' H' t e => h Z' H' (s.trans t) e
/-- the answer is there -/
theorem Post.now {Z H : Hp} {Q : VK} {d : D} {v : V} (p : Pre g Z H) (h : Post g Z H Q (g.bud H) d) (r : Rep g Z v d) : Q v H := h v Z H (.refl p) rfl (.of r)
theorem Post.newL {Z H : Hp} {Q : VK} {ds : List D} {vs : List V} (p : Pre g Z H) (h : Post g Z H Q (g.bud H) (.new ds)) (r : Reps g Z vs ds) (hl : vs.length ≤ sizeLine) {a : Addr} (ha : H a = none) : Q (.ref a) (upd H a (.lst vs)) :=
  h _ Z _ (.newH p ha) (bud_upd p (p.nF ha)) ⟨a, vs, rfl, upd_same, hl, p.nF ha, p.nZ ha, ha, r⟩
theorem Post.newT {Z H : Hp} {Q : VK} {ds : List D} {vs : List V} (p : Pre g Z H) (h : Post g Z H Q (g.bud H) (.tup ds)) (r : Reps g Z vs ds) (hl : vs.length ≤ sizeLine) {a : Addr} (ha : H a = none) : Q (.ref a) (upd H a (.tup vs)) :=
  h _ (upd Z a (.tup vs)) _ (.newZ p ha) (bud_upd p (p.nF ha)) (.of (.tup upd_same hl (r.mono (sub_new (p.nZ ha)))))

/-- a list or a tuple is to be read -/
theorem RepR.seq {H0 Z H : Hp} {v : V} {d : D} {ds : List D} (p : Pre g Z H) (r : RepR g H0 Z H v d) (h : items d = some ds) : ∃ a vs, v = .ref a ∧ (SqL g.K H a vs ∨ SqT g.K H a vs) ∧ vs.length ≤ sizeLine ∧ Reps g Z vs ds := by
  cases d <;> simp [items] at h
  · subst h; cases r with | tup h1 h2 h3 => exact ⟨_, _, rfl, .inr (.of (p.zh _ _ h1)), h2, h3⟩
  · subst h; cases r with | lst h1 h2 h3 => exact ⟨_, _, rfl, .inl (.of (p.zh _ _ h1)), h2, h3⟩
  · subst h; cases r with | scr h1 h2 => exact ⟨_, _, rfl, .inl (sq_sub p.zh h1), by rw [List.length_map, sizeLine_eq]; omega, Reps.ofInts _⟩
  · subst h; obtain ⟨a, vs, rfl, h1, h2, h3, h4, h5⟩ := r; exact ⟨a, vs, rfl, .inl (.of h1), h2, h5⟩
  · subst h; obtain ⟨a, vs, rfl, h1, h2, h3, h4, h5, h6⟩ := r; exact ⟨a, vs, rfl, .inl (.of h1), h2, h6⟩
theorem RepR.lst {H0 Z H : Hp} {v : V} {d : D} {ds : List D} (p : Pre g Z H) (r : RepR g H0 Z H v d) (h : seqL d = some ds) : ∃ a vs, v = .ref a ∧ H a = some (.lst vs) ∧ vs.length ≤ sizeLine ∧ Reps g Z vs ds := by
  cases d <;> simp [seqL] at h
  · subst h; cases r with | lst h1 h2 h3 => exact ⟨_, _, rfl, p.zh _ _ h1, h2, h3⟩
  · subst h; obtain ⟨a, vs, rfl, h1, h2, h3, h4, h5⟩ := r; exact ⟨a, vs, rfl, h1, h2, h5⟩
  · subst h; obtain ⟨a, vs, rfl, h1, h2, h3, h4, h5, h6⟩ := r; exact ⟨a, vs, rfl, h1, h2, h6⟩
mutual
theorem Rep.dp {Z H : Hp} (e : Sub Z H) : ∀ {v : V} {d : D}, Rep g Z v d → d.toPy.canLay0 = true → Dp g.K H v d.toPy
  | _, _, .non, _ => .non
  | _, _, .bl b, _ => .bl b
  | _, _, .int i, _ => .int i
  | _, _, .str x, _ => .str x
  | _, _, .tup h l r, c => .tup (.of (e _ _ h)) (Reps.dp e r (by simpa [D.toPy, PyData.canLay0] using c))
  | _, _, .lst h l r, c => .lst (.of (e _ _ h)) (Reps.dp e r (by simpa [D.toPy, PyData.canLay0] using c))
  | _, _, .emp h, c => by simp [D.toPy, PyData.canLay0] at c
  | _, _, .scr h l, _ => .lst (sq_sub e h) (dpInts _)
  | _, _, .sta, c => by simp [D.toPy, PyData.canLay0] at c
  | _, _, .exc h, c => by simp [D.toPy, PyData.canLay0] at c
theorem Reps.dp {Z H : Hp} (e : Sub Z H) : ∀ {vs : List V} {ds : List D}, Reps g Z vs ds → PyData.canLayAll0 (D.toPys ds) = true → DpAll g.K H vs (D.toPys ds)
  | _, _, .nil, _ => .nil
  | _, _, .cons r t, c => by
    simp [D.toPys, PyData.canLayAll0] at c
    exact .cons (Rep.dp e r c.1) (Reps.dp e t c.2)
theorem dpInts {H : Hp} : ∀ ns : List Int, DpAll g.K H (ns.map V.int) (ns.map PyData.int)
  | [] => .nil
  | n :: ns => .cons (.int n) (dpInts ns)
end
theorem RepR.dp {H0 Z H : Hp} {v : V} {d : D} (p : Pre g Z H) (r : RepR g H0 Z H v d) (c : okPy d = true) : Dp g.K H v d.toPy := by
  have c0 : d.toPy.canLay0 = true := SeqAt.canLay_of_shaped c
  cases d <;> first
    | exact Rep.dp p.zh r c0
    | (obtain ⟨a, vs, rfl, h1, h2, h3, h4, h5, h6⟩ := r; exact .lst (.of h1) (Reps.dp p.zh h6 (by simpa [D.toPy, PyData.canLay0] using c0)))
    | (obtain ⟨a, vs, rfl, h1, h2, h3, h4, h6⟩ := r; exact .lst (.of h1) (Reps.dp p.zh h6 (by simpa [D.toPy, PyData.canLay0] using c0)))
end PV
end
section
set_option maxHeartbeats 4000000
/-! PvX: an exception that a handler keeps as a value. -/
namespace PV
open PySem PySem.Spec PyProof.Rows L2
section
variable {X : Cx} {pins : List (Addr × Obj)} {σ : L2.St} {H : Hp} {s : Shared} {a : Addr} {oe : Obj} {vs : Array Value} {cls : Value}
theorem exV_ok {h : Heap} (e : h.get? a = some oe) (z : Zc cls none oe) (d : oe.data = .fields vs) : ObjOk X.prog X.w H h a (ExV cls a) :=
  ⟨⟨oe, vs, e, z, d⟩, ⟨oe, e⟩, fun _ _ ⟨o, v, q, r⟩ k => ⟨o, v, k o q, r⟩⟩
/-- it is told of from now on -/
theorem track (I : Inv X pins σ H s) (e : s.heap.get? a = some oe) (z : Zc cls none oe) (d : oe.data = .fields vs) (na : H a = none) (n0 : X.s_0.heap.get? a = none) (nL : a ≠ X.env.locals) (np : ∀ p ∈ X.pn ++ pins, p.1 ≠ a) :
    Inv X pins σ (upd H a (ExV cls a)) s := by
  have was : ∀ b o, X.s_0.heap.get? b = some o → b ≠ a := fun b o q k => by rw [k, n0] at q; cases q
  have other : ∀ b o, H b = some o → b ≠ a := fun b o q k => by rw [k, na] at q; cases q
  have ncell : ∀ x c, X.env.cells.lookup x = some c → c ≠ a := fun x c q k => by
    obtain ⟨v, o, h1, h2⟩ := I.cell x c q
    rw [k, e] at h1
    cases h1
    rw [d] at h2
    cases h2
  have up : ∀ b o, H b = some o → upd H a (ExV cls a) b = some o := fun b o q => by
    rw [upd_ne (other b o q)]
    exact q
  exact {
    ok := I.ok
    os := I.os
    bare := I.bare
    base := {
      keep := I.base.keep
      slot := I.base.slot
      free := fun b o q h1 h2 => by rw [upd_ne (was b o q)]; exact I.base.free b o q h1 h2
      there := I.base.there
      tups := fun b xs q => up b _ (I.base.tups b xs q)
      frzs := fun b o u q => up b _ (I.base.frzs b o u q)
      tbls := fun b ps q => let ⟨m, q2⟩ := I.base.tbls b ps q; ⟨m, up b _ q2⟩ }
    loc := I.loc
    cell := I.cell
    free := by rw [upd_ne (Ne.symm nL)]; exact I.free
    freeC := fun x c q => by rw [upd_ne (ncell x c q)]; exact I.freeC x c q
    pin := fun p hp => by
      obtain ⟨h1, h2, h3⟩ := I.pin p hp
      exact ⟨h1, by rw [upd_ne (np p hp)]; exact h2, h3⟩
    hok := fun b u q => by
      by_cases hb : b = a
      · subst hb
        rw [upd_same] at q
        cases q
        exact exV_ok (X := X) e z d
      · rw [upd_ne hb] at q
        exact (I.hok b u q).stay (fun _ _ _ r => r) (fun c r => up c _ r) fun c xs r => up c _ r
    len := I.len }
end
/-! ### try: body, except x as n: m = n -/
/-- what the clause wishes of the body's errors -/
def wKeep (K : PySem.W.Frag) (c : Value) (i j : Nat) (D : Ends) : WX := fun cls d σ H =>
  d = none ∧ PySem.W.exmOne K cls c = some true ∧ ∀ a, H a = none → j < σ.length → D.nx (((σ.set i (some (.ref a))).set j (some (.ref a))).set i none) (upd H a (ExV cls a))
section
variable {X : Cx} {x n m : Str} {c : Value} {i j : Nat} {body : List Stmt} {np pm pe pa pos pos' : Pos} {tb : WX → TS}
theorem ps_try_keep (hs : X.stack = X.env :: X.outer) (hf : X.env.frame = some X.env.locals) (hex : X.ex = []) (hN : X.N.Nodup) (hi : X.N[i]? = some n) (hj : X.N[j]? = some m) (hln : X.env.kindOf n = some .local) (hlm : X.env.kindOf m = some .local) (hc : Names X x c)
    (hnd : (n == ("__debug__" : Str)) = false) (hncd : (n == ("__classdict__" : Str)) = false)
    (hb : ∀ (W : WX) (pn : List (Addr × Obj)) (xe : Value → Shared → Prop), Takes (X.tr pn xe) W → PassesOwn (model X.prog X.w) X.A X.env xe → PSs (X.tr pn xe) body (tb W)) :
    PS X (.Try body [.ExceptHandler (some (.Name x np)) (some n) [.Assign [.Name m pm] (.Name n pe) pa] pos'] [] [] pos) (fun D σ H => tb (wKeep X.K c i j D) D σ H) := by
  refine ⟨fun pins s σ H D I h => ?_⟩
  have ok := I.ok
  have frames : X.A.frames = some (X.env :: X.outer) := by rw [ok.frames, hs]
  have nloc : Loc X.env.scope n := .inl hln
  have mloc : Loc X.env.scope m := .inl hlm
  refine wpAny_Try_except ?_
  have run := (hb (wKeep X.K c i j D) (X.pn ++ pins) (fun e s₁ => wpAny (model X.prog X.w) X.A (noteFrame e X.env) (fun _ s₂ => wpAny (model X.prog X.w) X.A (setFlight e none) (fun _ s₃ =>
    wpAny (model X.prog X.w) X.A (handleBy e X.env [.ExceptHandler (some (.Name x np)) (some n) [.Assign [.Name m pm] (.Name n pe) pa] pos']) (SP X pins D) X.xe s₃) X.xe s₂) X.xe s₁) (fun u s' xx => ?_) PassesOwn.looking).run [] s σ H D (I.toTry _) h
  · refine wpAny_mono run (fun f s1 hsp => ?_) fun e s1 he => he
    cases f with
    | next =>
      obtain ⟨σ', H', J', q⟩ := hsp
      exact wpAny_execs_nil ⟨σ', H', J'.ofTry ok, q⟩
    | brk =>
      obtain ⟨σ', H', J', q⟩ := hsp
      exact ⟨σ', H', J'.ofTry ok, q⟩
    | cont =>
      obtain ⟨σ', H', J', q⟩ := hsp
      exact ⟨σ', H', J'.ofTry ok, q⟩
    | ret u =>
      obtain ⟨v, σ', H', J', r, q⟩ := hsp
      exact ⟨v, σ', H', J'.ofTry ok, r, q⟩
  · -- the catch
    obtain ⟨a, B, sI, pins', σ', H', cls, d, rfl, J', nb, up, sky, na, os, ag, rfl, hb1, hyes⟩ := xx
    have J : Inv X pins σ' H' sI := J'.ofTry ok
    have sky1 : Sky B (X.env :: X.outer) a (Zc cls none) X.env.locals s'.heap := by rw [← hs]; exact sky
    show wpAny (model X.prog X.w) X.A (noteFrame (.ref a) X.env) _ _ _
    refine Sky.land Zc.steady frames hf sky1 fun h3 fl3 up3 => ?_
    have J3 : Inv X pins σ' H' { s' with heap := h3 } := J.landed nb fl3.1 (up.trans up3) os ag
    obtain ⟨o3, v3, he3, hz3, hd3⟩ := fl3.there
    have nfr : a ∉ frs (X.env :: X.outer) := fun hm => by
      obtain ⟨_, o1, e1, hnf⟩ := fl3.2.2.1.mem hm
      rw [he3] at e1
      cases e1
      exact hnf _ hd3
    have nL : a ≠ X.env.locals := fun z => nfr (List.mem_filterMap.mpr ⟨X.env, List.mem_cons_self, by rw [hf, z]⟩)
    have nF : a ∉ X.fs := fun hm => by
      obtain ⟨e, he, q⟩ := List.mem_filterMap.mp hm
      exact nfr (List.mem_filterMap.mpr ⟨e, List.mem_cons_of_mem _ he, q⟩)
    have nI : sI.heap.get? a = none := by
      cases q : sI.heap.get? a with
      | none => rfl
      | some o =>
        have z := nb a o q (by rw [hs]; exact nfr)
        rw [fl3.2.1] at z
        cases z
    have n0 : X.s_0.heap.get? a = none := by
      cases q : X.s_0.heap.get? a with
      | none => rfl
      | some o =>
        obtain ⟨o1, z⟩ := J.base.there a o q (by rw [hex]; exact fun h => nomatch h)
        rw [nI] at z
        cases z
    have apart : ∀ p ∈ X.pn ++ pins, p.1 ≠ a := fun p hp z => by
      have q := (J.pin p hp).1
      rw [z, nI] at q
      cases q
    have S3 := J3.suite he3 hd3 na nL nF
    refine wpAny_handleBy_cons (codeAny_handlers_test ?_) (by intro q; cases q)
    have LT : PySem.W.Looks (model X.prog X.w) h3 (typeOf (.ref a)) cls := fun A Q E s k q => wpAny_typeOf_ref (k _ _ he3) (by rw [hz3.1]; exact q)
    have LM := PySem.W.exm_one (M := model X.prog X.w) (J3.kIn) LT hb1
    have test : ∀ {Q : Value → Shared → Prop} {E : Value → Shared → Prop}, Q c { s' with heap := h3 } → wpAny (model X.prog X.w) (X.A.mark (some (.ref a))) (eval (.Name x np) X.env) Q E { s' with heap := h3 } := fun {Q E} q => by
      obtain ⟨hg, hdbg, hm | ⟨hm, hv, hnn⟩⟩ := hc
      · exact ld_glob (X := X.suite a ((a, o3) :: (X.pn ++ pins))) S3 hg hm q hdbg
      · exact ld_blt (X := X.suite a ((a, o3) :: (X.pn ++ pins))) S3 hg hm hv q hnn hdbg
    refine test (LM.here ?_)
    refine codeAny_handlers_suite_as ?_
    refine HandSPX.lands_againZ fl3 fun h4 fl4 up4 => ?_
    have J4 : Inv X pins σ' H' { s' with heap := h4 } := J.landed nb fl4.1 ((up.trans up3).trans up4) os ag
    obtain ⟨o4, v4, he4, hz4, hd4⟩ := fl4.there
    have S4 := J4.suite he4 hd4 na nL nF
    refine store_ok (X := X.suite a ((a, o4) :: (X.pn ++ pins))) (v := .ref a) S4 hN hi nloc rfl (fun s5 S5 => ?_) (.inr hln)
    have one : PSs (X.suite a ((a, o4) :: (X.pn ++ pins))) [.Assign [.Name m pm] (.Name n pe) pa] (tAsg (tVar i) (gName j)) := pss_one (ps_set hN hj mloc (pe_var hi (.inl hln) hnd hncd) (hf := .inr hlm))
    have hlen : i < σ'.length := by rw [J.len]; exact (List.getElem?_eq_some_iff.mp hi).1
    refine wpAny_mono (one.run [] s5 (σ'.set i (some (.ref a))) H' { nx := fun σ6 H6 => σ6 = (σ'.set i (some (.ref a))).set j (some (.ref a)) ∧ H6 = H', rt := fun _ _ => False, bk := fun _ _ => False, ct := fun _ _ => False } S5 ⟨.ref a, by rw [List.getElem?_set_self hlen], rfl, rfl⟩) (fun f s6 hsp => ?_) (fun _ _ z => False.elim z)
    cases f with
    | next =>
      obtain ⟨σ6, H6, S6, e6, e7⟩ := hsp
      subst e6 e7
      have e := (S6.pin (a, o4) (List.mem_append_left _ List.mem_cons_self)).1
      have J6 := track (cls := cls) (S6.unsuite ok) e hz4 hd4 na n0 nL apart
      exact gone_ok J6 hN hi hln fun s7 J7 => ⟨_, _, J7, hyes a na (by rw [J.len]; exact (List.getElem?_eq_some_iff.mp hj).1)⟩
    | brk =>
      obtain ⟨_, _, _, q⟩ := hsp
      exact q.elim
    | cont =>
      obtain ⟨_, _, _, q⟩ := hsp
      exact q.elim
    | ret u =>
      obtain ⟨_, _, _, _, _, q⟩ := hsp
      exact q.elim
end
/-! ### _law_caught -/
section
open LamX
variable {X : Cx}
def TKeep (K : PySem.W.Frag) (CS : Addr) : (XK → Hp → VK → Prop) → Hp → VK → Prop := fun tl H Q =>
  tl (fun cls d H' => d = none ∧ PySem.W.exmOne K cls (.ref CS) = some true ∧ ∀ a, H' a = none → Q (.ref a) (upd H' a (ExV cls a))) H fun _ H' => Q .non H'
def NC : List Str := ["work", "caught", "error"]
def caughtB (p1 p2 p3 p4 p5 p6 p7 p8 p9 p10 p11 p12 p13 p14 : Pos) (k : Nat) : List Stmt :=
  [.Assign [.Name "caught" p1] (.Constant .none k p2) p3,
   .Try [.Expr (.Call (.Name "work" p4) [] [] p5) p6] [.ExceptHandler (some (.Name "HoweverError" p7)) (some "error") [.Assign [.Name "caught" p8] (.Name "error" p9) p10] p11] [] [] p12,
   .Return (some (.Name "caught" p13)) p14]
theorem keep_gives {x q : Str} {sg : Scope} {g CS : Addr} {cdg : Value} {k : Nat} {p1 p2 p3 p4 p5 p6 p7 p8 p9 p10 p11 p12 p13 p14 : Pos}
    (hge : sg.names.lookup ("HoweverError" : Str) = some .globalImplicit) (hme : X.mg "HoweverError" = some (.ref CS)) (h1 : sg.names.lookup ("caught" : Str) = some .local) (h2 : sg.names.lookup ("error" : Str) = some .local) :
    GivesTo X NC x sg g cdg (caughtB p1 p2 p3 p4 p5 p6 p7 p8 p9 p10 p11 p12 p13 p14 k) "work" q (TKeep X.K CS) := by
  intro f c' s H Q tl act hc h
  have nd : NC.Nodup := by decide +kernel
  have hgl : Gl (cxOf C8.CX0 X.prog X.w X.K X.mg X.base NC x sg g cdg X.A X.stack s H C8.E0).nox "HoweverError" := hge
  refine ⟨_, pss_cons (ps_set (i := 1) nd rfl (.inl h1) pe_non (hf := .inr h1)) (pss_cons (ps_try_keep (X := (cxOf C8.CX0 X.prog X.w X.K X.mg X.base NC x sg g cdg X.A X.stack s H C8.E0).nox) (c := .ref CS) (i := 2) (j := 1)
      (tb := fun W D σ H => ∃ Ech : XK, (∀ cls d σ' H', Ech cls d H' → W cls d σ' H') ∧ σ[0]? = some (some (.ref f)) ∧ H c' = some (CodeO c' q) ∧ tl Ech H fun _ H' => D.nx σ H')
      rfl rfl rfl nd rfl rfl h2 h1 ⟨hgl, by decide +kernel, .inl hme⟩ (by decide +kernel) (by decide +kernel) (fun W pn xe tk _ => ?_)) (pss_one (ps_ret (pe_var (i := 1) rfl (.inl h1) (by decide +kernel) (by decide +kernel))))), ?_⟩
  · refine ⟨fun pins s' σ H' D I h' => ?_⟩
    obtain ⟨Ech, hW, a1, a2, a3⟩ := h'
    have hp := act W pn xe Ech p4 p5 tk hW
    have hq := pss_one (ps_expr (pos := p6) hp)
    exact hq.run pins s' σ H' D I ⟨a1, a2, a3⟩
  · refine ⟨fun cls d H' => d = none ∧ PySem.W.exmOne X.K cls (.ref CS) = some true ∧ ∀ a, H' a = none → Q (.ref a) (upd H' a (ExV cls a)), fun cls d σ' H' ⟨e1, e2, e3⟩ => ⟨e1, e2, fun a ha hl => ⟨.ref a, by rw [List.getElem?_set_ne (by decide), List.getElem?_set_self (by rw [List.length_set]; exact hl)], e3 a ha⟩⟩, rfl, hc, ?_⟩
    have e : (fun (_ : V) (H' : Hp) => ∃ v, (List.set (L2.start NC [V.ref f]) 1 (some V.non))[1]? = some (some v) ∧ Q v H') = fun _ H' => Q .non H' := by
      funext _ H'
      refine propext ⟨fun ⟨v, q1, q2⟩ => ?_, fun q => ⟨.non, rfl, q⟩⟩
      have q3 : some (some V.non) = some (some v) := q1
      cases q3
      exact q2
    show tl _ H (fun (_ : V) (H' : Hp) => ∃ v, (List.set (L2.start NC [V.ref f]) 1 (some V.non))[1]? = some (some v) ∧ Q v H')
    rw [e]
    exact h
end
/-! ### tables that nobody asked for are forgotten -/
/-- H1 without the tables that H has not -/
def dropT (H H1 : Hp) : Hp := fun b => match H1 b with
  | some (.tbl ps) => (match H b with
    | some (.tbl _) => some (.tbl ps)
    | _ => none)
  | o => o
section
variable {H H1 : Hp} {b : Addr} {u : HO}
theorem dropT_sub (h : dropT H H1 b = some u) : H1 b = some u := by
  unfold dropT at h
  split at h
  · rename_i e
    split at h
    · rw [e]; exact h
    · cases h
  · exact h
theorem dropT_keep (h : H1 b = some u) (n : ∀ ps, u ≠ .tbl ps) : dropT H H1 b = some u := by
  unfold dropT
  split
  · rename_i e
    rw [h] at e
    cases e
    exact absurd rfl (n _)
  · exact h
theorem dropT_tbl {ps qs : Array Value} (h : H1 b = some (.tbl ps)) (k : H b = some (.tbl qs)) : dropT H H1 b = some (.tbl ps) := by
  unfold dropT
  rw [h, k]
theorem dropT_new {ps : Array Value} (h : dropT H H1 b = some (.tbl ps)) : ∃ qs, H b = some (.tbl qs) := by
  have e := dropT_sub h
  unfold dropT at h
  rw [e] at h
  dsimp only at h
  split at h
  · rename_i q; exact ⟨_, q⟩
  · cases h
theorem dropT_none (h : H1 b = none) : dropT H H1 b = none := by
  unfold dropT
  rw [h]
end
theorem untbl {X : Cx} {pins pins1 : List (Addr × Obj)} {σ τ : L2.St} {H H1 : Hp} {s s1 : Shared} (I : Inv X pins σ H s) (J : Inv X pins1 τ H1 s1) : Inv X pins1 τ (dropT H H1) s1 where
  ok := J.ok
  os := J.os
  bare := J.bare
  base := {
    keep := J.base.keep
    slot := J.base.slot
    free := fun b o q h1 h2 => dropT_none (J.base.free b o q h1 h2)
    there := J.base.there
    tups := fun b xs q => dropT_keep (J.base.tups b xs q) fun _ z => by cases z
    frzs := fun b o u q => dropT_keep (J.base.frzs b o u q) fun _ z => by cases z
    tbls := fun b ps q => by
      obtain ⟨m, e1⟩ := J.base.tbls b ps q
      obtain ⟨k, e2⟩ := I.base.tbls b ps q
      exact ⟨m, dropT_tbl e1 e2⟩ }
  loc := J.loc
  cell := J.cell
  free := dropT_none J.free
  freeC := fun x c q => dropT_none (J.freeC x c q)
  pin := fun p hp => let ⟨h1, h2, h3⟩ := J.pin p hp; ⟨h1, dropT_none h2, h3⟩
  hok := fun b u q => (J.hok b u (dropT_sub q)).stay (fun _ _ _ r => r) (fun c r => dropT_keep r fun _ z => by cases z) fun c xs r => dropT_keep r fun _ z => by cases z
  len := J.len
section
open LamX
/-- what a call with a lambda asks: no table is new, those of the entry stay -/
def tLamN (H0 : Hp) (T : List (Addr × Str)) (TT : (XK → Hp → VK → Prop) → Hp → VK → Prop) (t : XK → TE) : TE := fun σ H Q => Tabs T H ∧
  ∀ H1, ExtN H H1 → (∀ a ps, H1 a = some (.tbl ps) → ∃ qs, H a = some (.tbl qs)) → (∀ a ps, H0 a = some (.tbl ps) → ∃ qs, H1 a = some (.tbl qs)) → Tabs T H1 → TT (fun E H' Q' => t E σ H' Q') H1 Q
theorem pe_lamN {X : Cx} {T : List (Addr × Str)} {TT : (XK → Hp → VK → Prop) → Hp → VK → Prop} {x a : Str} {ga c P : Addr} {k : Nat} {pg : Arguments} {bg : List Stmt} {sg : Scope} {dV kV doc pm cdv ct oc : Value} {an od : Option Addr} {osl : Array (Option Value)} {Ng : List Str}
    {params : Arguments} {body : Expr} {scope : Scope} {t : XK → TE} {p lpos pos : Pos} (hg : Gl X x) (hm : X.mg x = some (.ref ga)) (hk : PySem.W.keepIn X.K (.ref ga) = true)
    (lk : X.K.lookup ga = some ⟨oc, od, .func (PySem.W.fnOf x x pg bg sg dV kV doc pm an cdv ct), osl⟩) (hcg : PySem.W.codeIn X.K cdv x = true)
    (hb : L2.Binds X.K (PySem.W.fnOf x x pg bg sg dV kV doc pm an cdv ct) [a] []) (Sg : FnScope Ng [a] sg) (hNg : Ng[0]? = some a) (hva : Vis sg a) (hG : GivesTo X Ng x sg ga cdv bg a (X.env.qual ++ "<lambda>") TT)
    (TB : TabB X.base X.mg c P) (hcode : X.env.code = .ref c) (hmT : (P, X.env.qual ++ "<lambda>") ∈ T) (hu : ∀ p ∈ T, p.1 = P → p.2 = X.env.qual ++ "<lambda>")
    (hr : Room (k + 2) X.A) (L : LamS X.env.scope scope) (hdef : defaultsOf params X.env = ([], []))
    (hbind : ∀ (q : Str) (cl : List (Str × Addr)) (pm cv ctv : Value), bindArgs (PySem.W.kla_fn "<lambda>" q params body scope cl pm cv ctv) ⟨[], []⟩ = pure [])
    (hbody : ∀ (A : Around) (outer : List PySem.Env) (s : Shared) (H : Hp) (E : XK) (f c' : Addr), Room k (A.deeper (lamEnv X scope s.heap.objs.size f c')) → PE (lamCx X A outer s H E scope f c') body (t E))
    (hdb : (x == ("__debug__" : Str)) = false) (hd : (a == ("__debug__" : Str)) = false) (hcd : (a == ("__classdict__" : Str)) = false) :
    PE X (.Call (.Name x p) [.Lambda params body scope lpos] [] pos) (tLamN X.H_0 T TT t) := by
  refine ⟨fun pins s σ H Q I h => ?_⟩
  obtain ⟨tabs, rest⟩ := h
  refine wpAny_Call_Name_kw (ld_glob I hg hm ?_ hdb)
  refine PySem.W.callWith_K (h₀ := X.base) I.ok.mod.kin hk ?_ (by rfl) (by rfl)
  refine Calls.spliced_cons (lam_make2 I TB hcode hmT hu tabs hdef (L.has I.ok) fun f c' pm' ctv H1 s' I1 eN T1 hf hfn hfr hco => ?_)
  have J := untbl I I1
  have eN' : ExtN H (dropT H H1) := fun b o e n => dropT_keep (eN b o e n) n
  have tabs' : Tabs T (dropT H H1) := fun q hq => by
    obtain ⟨ps, a1, a2, a3⟩ := T1 q hq
    obtain ⟨ps0, b1, _, _⟩ := tabs q hq
    exact ⟨ps, dropT_tbl a1 b1, a2, fun pos cv hc => let ⟨d, e1, e2⟩ := a3 pos cv hc; ⟨d, e1, dropT_keep e2 codeO_ne⟩⟩
  have hco' : dropT H H1 c' = some (CodeO c' (X.env.qual ++ "<lambda>")) := dropT_keep hco codeO_ne
  refine Calls.spliced_nil ⟨J.kIn, ?_⟩
  have rc : codeAny (model X.prog X.w) X.A (.call (.ref ga) ⟨[.ref f], []⟩) (CR C8.CX0 X.stack X.prog X.w (dropT H H1) s' Q C8.E0) s' := by
    refine run_ofS (N := Ng) (us := [.ref f]) (vs := [.ref f]) (ps := [a]) lk hcg Sg hr J.env0 (hb s' [.ref f] J.kIn rfl) (.cons rfl .nil) rfl fun hr2 => ?_
    obtain ⟨tt, u1, u2⟩ := hG f c' s' (dropT H H1) Q (fun E H' Q' => t E σ H' Q')
      (fun W pn xe E p1 p2 tk hW => pe_act (i := 0) J L hf (dropT_none hfn) hfr (hbind _ _ _ _ _) tk hW hr2 (fun A outer s H r3 => hbody A outer s H E f c' r3) hNg hva hd hcd) hco'
      (rest _ eN' (fun _ _ e => dropT_new e) (fun b ps e => by obtain ⟨m, e1⟩ := J.base.tbls b ps e; exact ⟨_, e1⟩) tabs')
    exact ⟨tt, u1.nox, u2⟩
  refine wpAny_call (codeAny_mono rc fun r s2 hq => ?_)
  cases r with
  | error e => exact (show False from hq).elim
  | ok fl =>
    cases fl with
    | ret u => exact J.after hq
    | next => exact hq.elim
    | brk => exact hq.elim
    | cont => exact hq.elim
end
/-! ### isinstance of an exception that is kept -/
def rIsX (K : PySem.W.Frag) : List V → Hp → VK → Prop := fun xs H Q => ∃ (a D C : Addr) (b : Bool), xs = [.ref a, .ref C] ∧ H a = some (ExV (.ref D) a) ∧ ExcC K D ∧ PySem.W.kitOne K (.ref D) (.ref C) = some b ∧ Q (.bl b) H
theorem call_isX {X : Cx} : CallR X (.builtin "isinstance") (rIsX X.K) := by
  rintro pins s σ H xs us Q I r ⟨a, D, C, b, rfl, hH, c, e, q⟩
  match us, r with
  | _, .cons ra (.cons rc .nil) =>
    cases ra
    cases rc
    obtain ⟨⟨oe, vs, h1, h2, h3⟩, _⟩ := I.hok a _ hH
    have J : PySem.W.InstAt s.heap a oe D none := by
      rcases oe with ⟨k1, k2, k3, k4⟩
      cases h2.1
      cases h2.2
      cases h3
      exact ⟨h1, rfl, rfl, trivial⟩
    exact PySem.W.kia_one (PySem.W.handS_kitx_exc c.hg c.hk c.hs c.hd c.ha c.hn c.ht c.hm) I.kIn J e (by intro z; cases z) fun tk => ⟨.bl b, H, I.kept (t' := tk) fun _ _ z => z, rfl, q⟩
end PV
end
section
set_option maxHeartbeats 1000000
/-! PvL: lambdas that are kept as values. -/
namespace PV
open PySem PySem.Spec PyProof.Rows L2 LamX
/-- the object of a lambda -/
def FnO (q : Str) (params : Arguments) (body : Expr) (scope : Scope) (cl : List (Str × Addr)) (c' f : Addr) : HO := .ext fun h => ∃ (pm ctv : Value), h.get? f = some (PySem.W.kla_obj "<lambda>" q params body scope cl pm c' ctv)
section
variable {X : Cx} {pins : List (Addr × Obj)} {σ : L2.St} {H : Hp} {s : Shared} {a : Addr} {oe : Obj} {u : HO}
/-- an object is told of from now on -/
theorem trackO (I : Inv X pins σ H s) (e : s.heap.get? a = some oe) (ok : ∀ H', ObjOk X.prog X.w H' s.heap a u) (nc : ∀ v, ¬ s.heap.IsCell a v) (na : H a = none) (n0 : X.s_0.heap.get? a = none) (nL : a ≠ X.env.locals) (np : ∀ p ∈ X.pn ++ pins, p.1 ≠ a) :
    Inv X pins σ (upd H a u) s := by
  have was : ∀ b o, X.s_0.heap.get? b = some o → b ≠ a := fun b o q k => by rw [k, n0] at q; cases q
  have other : ∀ b o, H b = some o → b ≠ a := fun b o q k => by rw [k, na] at q; cases q
  have ncell : ∀ x c, X.env.cells.lookup x = some c → c ≠ a := fun x c q k => by
    obtain ⟨v, hv⟩ := I.cell x c q
    exact nc v (k ▸ hv)
  have up : ∀ b o, H b = some o → upd H a u b = some o := fun b o q => by
    rw [upd_ne (other b o q)]
    exact q
  exact {
    ok := I.ok
    os := I.os
    bare := I.bare
    base := {
      keep := I.base.keep
      slot := I.base.slot
      free := fun b o q h1 h2 => by rw [upd_ne (was b o q)]; exact I.base.free b o q h1 h2
      there := I.base.there
      tups := fun b xs q => up b _ (I.base.tups b xs q)
      frzs := fun b o u q => up b _ (I.base.frzs b o u q)
      tbls := fun b ps q => let ⟨m, q2⟩ := I.base.tbls b ps q; ⟨m, up b _ q2⟩ }
    loc := I.loc
    cell := I.cell
    free := by rw [upd_ne (Ne.symm nL)]; exact I.free
    freeC := fun x c q => by rw [upd_ne (ncell x c q)]; exact I.freeC x c q
    pin := fun p hp => by
      obtain ⟨h1, h2, h3⟩ := I.pin p hp
      exact ⟨h1, by rw [upd_ne (np p hp)]; exact h2, h3⟩
    hok := fun b w q => by
      by_cases hb : b = a
      · subst hb
        rw [upd_same] at q
        cases q
        exact ok _
      · rw [upd_ne hb] at q
        exact (I.hok b w q).stay (fun _ _ _ r => r) (fun c r => up c _ r) fun c xs r => up c _ r
    len := I.len }
/-- a lambda is made; its object is new -/
theorem lam_new {T : List (Addr × Str)} {c P : Addr} {params : Arguments} {body : Expr} {scope : Scope} {pos : Pos} {E Q : Value → Shared → Prop} (I : Inv X pins σ H s) (TB : TabB X.base X.mg c P) (cd : X.env.code = .ref c)
    (inT : (P, X.env.qual ++ "<lambda>") ∈ T) (one : ∀ p ∈ T, p.1 = P → p.2 = X.env.qual ++ "<lambda>") (tabs : Tabs T H) (nodef : defaultsOf params X.env = ([], [])) (cap : ∀ y ∈ scope.names, y.2 = .free → ∃ c, X.env.cells.lookup y.1 = some c)
    (go : ∀ (f c' : Addr) (pm ctv : Value) (H1 : Hp) (s1 : Shared), Inv X pins σ H1 s1 → ExtN H H1 → Tabs T H1 → s1.heap.get? f = some (PySem.W.kla_obj "<lambda>" (X.env.qual ++ "<lambda>") params body scope (cloFrom X.env.cells scope.names []) pm c' ctv) →
      s.heap.objs.size ≤ f → H1 f = none → H1 c' = some (CodeO c' (X.env.qual ++ "<lambda>")) → Q (.ref f) s1) :
    wpAny (model X.prog X.w) X.A (eval (.Lambda params body scope pos) X.env) Q E s := by
  obtain ⟨ps, tP, tO, tA⟩ := tabs _ inT
  have bi : s.heap.BuiltinsAt X.mg P := TB.bm.keeps I.bk
  have oP : s.heap.get? P = some { cls := .none, data := .fields ps } := I.hok P _ tP
  refine PySem.W.kla_eval nodef ?_
  cases am : codeAmong pos ps.toList with
  | some cv =>
    obtain ⟨d, e, k⟩ := tA pos cv am
    subst e
    refine PySem.W.kla_makeFunctionHit (ps := ps) (P := P) (c := c) (mg := X.mg) (closure_ok cap) I.ok.glob (I.mod.glob.keeps I.bk) cd (TB.code.keeps I.bk) oP tO am bi fun ctv h1 tk up ge => ?_
    refine go h1.objs.size d ((X.mg "__name__").getD .none) ctv H _ (I.kept fun b o e => Heap.get?_push_of_some _ (up b o e)) (ExtN.refl H) tabs (Heap.get?_push_size _ rfl) ge (I.hok.fresh ge) k
  | none =>
    refine PySem.W.kla_makeFunction (ps := ps) (P := P) (c := c) (mg := X.mg) (closure_ok cap) I.ok.glob (I.mod.glob.keeps I.bk) cd (TB.code.keeps I.bk) oP tO am TB.gP bi fun d ctv h1 tk up ge lt cr ot => ?_
    obtain ⟨d', od, ws, t, e', k1, k2, k3⟩ := cr
    cases e'
    have g2 : s.heap.objs.size ≤ h1.objs.size := Nat.le_trans ge (Nat.le_of_lt lt)
    have nD : H d = none := I.hok.fresh ge
    have J := inv_table (h' := h1.push (PySem.W.kla_obj "<lambda>" (X.env.qual ++ "<lambda>") params body scope (cloFrom X.env.cells scope.names []) ((X.mg "__name__").getD .none) d ctv)) (t' := tk) (more := #[rawInt pos.line, rawInt pos.col, .ref d]) I tP
      (fun b o ne e => Heap.get?_push_of_some _ (up b o ne e)) (Heap.get?_push_of_some _ ot) ge ⟨od, ws, t, Heap.get?_push_of_some _ k1, k2, k3⟩
    have eN : ExtN H (upd (upd H P (.tbl (ps ++ #[rawInt pos.line, rawInt pos.col, .ref d]))) d (CodeO d (X.env.qual ++ "<lambda>"))) := fun b o e n => by
      have nP : b ≠ P := fun z => by
        subst z
        rw [tP] at e
        exact n ps (Option.some.inj e).symm
      rw [upd_ne (ne_of_none e nD), upd_ne nP]
      exact e
    have toL : (ps ++ #[rawInt pos.line, rawInt pos.col, .ref d]).toList = ps.toList ++ [rawInt pos.line, rawInt pos.col, .ref d] := by simp
    have lt2 : P < h1.objs.size := Nat.lt_of_lt_of_le (Heap.lt_size oP) g2
    refine go h1.objs.size d ((X.mg "__name__").getD .none) ctv _ _ J eN (fun p hp => ?_) (Heap.get?_push_size _ rfl) g2 (by rw [upd_ne (Nat.ne_of_gt lt), upd_ne (Nat.ne_of_gt lt2)]; exact I.hok.fresh g2) upd_same
    by_cases hb : p.1 = P
    · rw [one p hp hb, hb]
      refine ⟨_, (upd_ne (ne_of_none tP nD)).trans upd_same, by rw [toL]; exact PySem.TriplesOk_snoc _ _ _ _ tO, fun p2 cv k => ?_⟩
      rw [toL] at k
      rcases among_app _ tO k with z | z
      · obtain ⟨c0, a1, a2⟩ := tA p2 cv z
        exact ⟨c0, a1, eN _ _ a2 codeO_ne⟩
      · exact ⟨d, z, upd_same⟩
    · obtain ⟨qs, a1, a2, a3⟩ := tabs p hp
      refine ⟨qs, ((upd_ne (ne_of_none a1 nD)).trans (upd_ne hb)).trans a1, a2, fun p2 cv k => ?_⟩
      obtain ⟨c0, b1, b2⟩ := a3 p2 cv k
      exact ⟨c0, b1, eN _ _ b2 codeO_ne⟩
/-- a lambda as a value: its object is told of -/
def tFn (X : Cx) (T : List (Addr × Str)) (params : Arguments) (body : Expr) (scope : Scope) : TE := fun _ H Q => Tabs T H ∧ ∀ (f c' : Addr) (H1 : Hp), ExtN H H1 → (∀ a ps, H1 a = some (.tbl ps) → ∃ qs, H a = some (.tbl qs)) → (∀ a ps, X.H_0 a = some (.tbl ps) → ∃ qs, H1 a = some (.tbl qs)) →
  Tabs T H1 → H1 f = none → H1 c' = some (CodeO c' (X.env.qual ++ "<lambda>")) → Q (.ref f) (upd H1 f (FnO (X.env.qual ++ "<lambda>") params body scope (cloFrom X.env.cells scope.names []) c' f))
theorem fnO_ok {q : Str} {params : Arguments} {body : Expr} {scope : Scope} {cl : List (Str × Addr)} {c' f : Addr} {h : Heap} {P : Program} {w : World} {pm ctv : Value} (e : h.get? f = some (PySem.W.kla_obj "<lambda>" q params body scope cl pm c' ctv)) (H : Hp) : ObjOk P w H h f (FnO q params body scope cl c' f) :=
  ⟨⟨pm, ctv, e⟩, ⟨_, e⟩, fun _ _ ⟨p, t, z⟩ k => ⟨p, t, k _ z⟩⟩
theorem pe_lam0 {T : List (Addr × Str)} {c P : Addr} {params : Arguments} {body : Expr} {scope : Scope} {pos : Pos} (hex : X.ex = []) (TB : TabB X.base X.mg c P) (cd : X.env.code = .ref c) (inT : (P, X.env.qual ++ "<lambda>") ∈ T) (one : ∀ p ∈ T, p.1 = P → p.2 = X.env.qual ++ "<lambda>")
    (L : LamS X.env.scope scope) (nodef : defaultsOf params X.env = ([], [])) : PE X (.Lambda params body scope pos) (tFn X T params body scope) := by
  refine ⟨fun pins s σ H Q I h => ?_⟩
  obtain ⟨tabs, rest⟩ := h
  refine lam_new I TB cd inT one tabs nodef (L.has I.ok) fun f c' pm ctv H1 s1 I1 eN T1 hf ge hfn hco => ?_
  have J := untbl I I1
  have eN' : ExtN H (dropT H H1) := fun b o e n => dropT_keep (eN b o e n) n
  have tabs' : Tabs T (dropT H H1) := fun q hq => by
    obtain ⟨ps, a1, a2, a3⟩ := T1 q hq
    obtain ⟨ps0, b1, _, _⟩ := tabs q hq
    exact ⟨ps, dropT_tbl a1 b1, a2, fun pos cv hc => let ⟨d, e1, e2⟩ := a3 pos cv hc; ⟨d, e1, dropT_keep e2 codeO_ne⟩⟩
  have hco' : dropT H H1 c' = some (CodeO c' (X.env.qual ++ "<lambda>")) := dropT_keep hco codeO_ne
  have far : ∀ b o, s.heap.get? b = some o → b ≠ f := fun b o e z => by
    rw [z] at e
    exact Nat.lt_irrefl _ (Nat.lt_of_lt_of_le (Heap.lt_size e) ge)
  have n0 : X.s_0.heap.get? f = none := by
    cases q : X.s_0.heap.get? f with
    | none => rfl
    | some o =>
      obtain ⟨o1, z⟩ := I.base.there f o q (by rw [hex]; exact fun h => nomatch h)
      exact absurd rfl (far f o1 z)
  have nL : f ≠ X.env.locals := fun z => by
    have h1 := I.lt
    rw [← z] at h1
    exact Nat.lt_irrefl _ (Nat.lt_of_lt_of_le h1 ge)
  have K := trackO (u := FnO (X.env.qual ++ "<lambda>") params body scope (cloFrom X.env.cells scope.names []) c' f) J hf (fnO_ok hf) (fun v ⟨o, e, d⟩ => by
    rw [hf] at e
    cases e
    cases d) (dropT_none hfn) n0 nL (fun p hp z => far p.1 _ (I.pin p hp).1 z)
  exact ⟨.ref f, _, K, rfl, rest f c' _ eN' (fun _ _ e => dropT_new e) (fun b ps e => by obtain ⟨m, e1⟩ := J.base.tbls b ps e; exact ⟨_, e1⟩) tabs' (dropT_none hfn) hco'⟩
end
/-! ### a lambda of a frame further out is called -/
section
variable {X : Cx} {pins : List (Addr × Obj)} {σ : L2.St} {H : Hp} {s : Shared}
/-- what lies between the maker's frame and the one that calls -/
structure Betw (X : Cx) (H : Hp) (s : Shared) (outer : List PySem.Env) (H2 : Hp) (s2 : Shared) : Prop where
  un : Un (frs X.stack) [] H H2 s.heap s2.heap
  new : ∀ b ∈ frs outer, b ∉ frs X.stack → s.heap.get? b = none
theorem Betw.to {outer : List PySem.Env} {H2 H3 : Hp} {s2 s3 : Shared} (b : Betw X H s outer H2 s2) (u : Un (frs outer) [] H2 H3 s2.heap s3.heap) : Un (frs X.stack) [] H H3 s.heap s3.heap where
  keep := fun c ob q n hc _ => by
    have e := b.un.keep c ob q n hc (by simp)
    have m := b.un.free c ob q n (by simp)
    refine u.keep c ob e m (fun z => ?_) (by simp)
    rw [b.new c z hc] at q
    cases q
  slot := fun c ob q n hc _ => by
    obtain ⟨sl, e⟩ := b.un.slot c ob q n hc (by simp)
    have m := b.un.free c ob q n (by simp)
    obtain ⟨sl2, e2⟩ := u.any e m (by simp)
    exact ⟨sl2, e2⟩
  free := fun c ob q n _ => by
    obtain ⟨o', e⟩ := b.un.there c ob q (by simp)
    exact u.free c o' e (b.un.free c ob q n (by simp)) (by simp)
  there := fun c ob q _ => by
    obtain ⟨o', e⟩ := b.un.there c ob q (by simp)
    exact u.there c o' e (by simp)
  tups := fun c xs e => u.tups c xs (b.un.tups c xs e)
  frzs := fun c o v e => u.frzs c o v (b.un.frzs c o v e)
  tbls := fun c ps e => by
    obtain ⟨m1, e1⟩ := b.un.tbls c ps e
    obtain ⟨m2, e2⟩ := u.tbls c _ e1
    exact ⟨m1 ++ m2, by rw [e2, Array.append_assoc]⟩
/-- x() in the frame Z, x a lambda of the frame X -/
theorem pe_actT {CXg : CXT} {Eg : XK} {Ng : List Str} {qg : Str} {sg : Scope} {g f c' : Addr} {cdg : Value} {params : Arguments} {body : Expr} {scope : Scope} {k i : Nat} {a : Str} {pn : List (Addr × Obj)} {xe : Value → Shared → Prop} {W : WX} {E : XK} {tb : TE} {p1 p2 : Pos}
    {A2 : Around} {outer : List PySem.Env} {H2 : Hp} {s2 : Shared} (I : Inv X pins σ H s) (L : LamS X.env.scope scope) (bt : Betw X H s outer H2 s2)
    (hbind : ∀ pm ctv, bindArgs (PySem.W.kla_fn "<lambda>" (X.env.qual ++ "<lambda>") params body scope (cloFrom X.env.cells scope.names []) pm (.ref c') ctv) ⟨[], []⟩ = pure [])
    (tk : Takes ((cxOf CXg X.prog X.w X.K X.mg X.base Ng qg sg g cdg A2 outer s2 H2 Eg).tr pn xe) W) (hW : ∀ cls d σ' H', E cls d H' → W cls d σ' H') (hr : Room (k + 1) (A2.deeper (envOfC qg sg s2.heap.objs.size g cdg)))
    (hbody : ∀ (A : Around) (outer : List PySem.Env) (s : Shared) (H : Hp), Room k (A.deeper (lamEnv X scope s.heap.objs.size f c')) → PE (lamCx X A outer s H E scope f c') body tb)
    (hN : Ng[i]? = some a) (hv : Vis sg a) (hd : (a == ("__debug__" : Str)) = false := by decide) (hcd : (a == ("__classdict__" : Str)) = false := by decide) :
    PE ((cxOf CXg X.prog X.w X.K X.mg X.base Ng qg sg g cdg A2 outer s2 H2 Eg).tr pn xe) (.Call (.Name a p1) [] [] p2)
      (fun σZ HZ Q => σZ[i]? = some (some (.ref f)) ∧ HZ c' = some (CodeO c' (X.env.qual ++ "<lambda>")) ∧ HZ f = some (FnO (X.env.qual ++ "<lambda>") params body scope (cloFrom X.env.cells scope.names []) c' f) ∧ tb σ HZ Q) := by
  refine ⟨fun pinsZ sZ σZ HZ Q IZ h => ?_⟩
  obtain ⟨hs, hc, hf, ht⟩ := h
  refine wpAny_Call_Name_kw (thn ((pe_var (pos := p1) (i := i) hN hv hd hcd).run pinsZ sZ σZ HZ (fun v H1 => v = .ref f ∧ H1 = HZ) IZ ⟨.ref f, hs, rfl, rfl⟩) fun w s1 ⟨v, H1, J1, rv, qv⟩ => ?_)
  obtain ⟨e1, e2⟩ := qv
  subst e1
  subst e2
  have rv : w = Value.ref f := rv
  subst rv
  obtain ⟨⟨pm, ctv, ob⟩, _, _⟩ := J1.hok f _ hf
  refine PySem.W.callWith_F0 ⟨_, _, _, _, ob⟩ ?_
  have un : Un (frs X.stack) [] H H1 s.heap s1.heap := bt.to J1.base
  obtain ⟨⟨oc, ws, t, k1, k2, k3⟩, _, _⟩ := J1.hok c' _ hc
  have run : codeAny (model X.prog X.w) (A2.deeper (envOfC qg sg s2.heap.objs.size g cdg)) (.call (.ref f) ⟨[], []⟩) (CR (L2.CX X.prog X.w) (envOfC qg sg s2.heap.objs.size g cdg :: outer) X.prog X.w H1 s1 Q E) s1 := by
    refine PySem.W.kla_callFunE hr.depth ob rfl L.co L.gen rfl ⟨c', oc, ws, t, rfl, k1, k2, k3⟩ ?_
    rw [hbind]
    refine wpAny_pure (wpAny_newFunctionEnv (fun y hy => (L.own y hy).2) (fun y hy => absurd hy (by simp)) (fun h₁ hns hsb => ⟨J1.nolimit.fresh _ hsb, ?_⟩) L.kind)
    show codeAny _ _ (.expr body (lamEnv X scope s1.heap.objs.size f c')) _ _
    have kp : ∀ b o, s1.heap.get? b = some o → h₁.get? b = some o := fun b o e => hsb.extBut b o (Nat.ne_of_lt (Heap.lt_size e)) (Heap.get?_push_of_some _ e)
    have J : Inv (lamCx X (A2.deeper (envOfC qg sg s2.heap.objs.size g cdg)) (envOfC qg sg s2.heap.objs.size g cdg :: outer) s1 H1 E scope f c') [] σ H1 { s1 with heap := h₁, toks := s1.toks + ([] : List (Str × Value)).length } :=
      lam_start2 I L J1.env0 hr.hd un hns kp
    refine PySem.W.kla_codeExpr (wpAny_mono ((hbody _ _ s1 H1 (hr.deeper _)).run [] _ _ H1 Q J ht) (fun v s' hq => ?_) fun e s' hq => hq)
    obtain ⟨w', H', J', r', q'⟩ := hq
    exact ⟨w', H', J'.os, J'.bare, J'.base, J'.hok, r', q'⟩
  have hx : Passes (L2.CX X.prog X.w) ((cxOf CXg X.prog X.w X.K X.mg X.base Ng qg sg g cdg A2 outer s2 H2 Eg).tr pn xe) E := passes_call tk hW
  refine wpAny_call (codeAny_mono run fun r s' hq => ?_)
  cases r with
  | ok fl =>
    cases fl with
    | ret u => exact J1.after hq
    | next => exact hq.elim
    | brk => exact hq.elim
    | cont => exact hq.elim
  | error e => exact hx pinsZ σZ H1 s1 e s' J1 hq
/-- a lambda of the frame X as it is read -/
structure LamT (X : Cx) (k : Nat) (params : Arguments) (body : Expr) (scope : Scope) (t : XK → TE) : Prop where
  L : LamS X.env.scope scope
  nodef : defaultsOf params X.env = ([], [])
  bind : ∀ (q : Str) (cl : List (Str × Addr)) (pm cv ctv : Value), bindArgs (PySem.W.kla_fn "<lambda>" q params body scope cl pm cv ctv) ⟨[], []⟩ = pure []
  pe : ∀ (A : Around) (outer : List PySem.Env) (s : Shared) (H : Hp) (E : XK) (f c' : Addr), Room k (A.deeper (lamEnv X scope s.heap.objs.size f c')) → PE (lamCx X A outer s H E scope f c') body (t E)
/-- _law_caught(e) in a frame Y right above X, e a lambda of X -/
def tCauY (X : Cx) (k : Nat) (σ : L2.St) (CS : Addr) (te : TE) : TE := fun σY HY Q => te σY HY fun v H1 => ∃ (f c' : Addr) (params : Arguments) (body : Expr) (scope : Scope) (t : XK → TE), v = .ref f ∧ LamT X k params body scope t ∧
  H1 f = some (FnO (X.env.qual ++ "<lambda>") params body scope (cloFrom X.env.cells scope.names []) c' f) ∧ H1 c' = some (CodeO c' (X.env.qual ++ "<lambda>")) ∧
  TKeep X.K CS (fun E H' Q' => H' f = some (FnO (X.env.qual ++ "<lambda>") params body scope (cloFrom X.env.cells scope.names []) c' f) ∧ t E σ H' Q') H1 Q
theorem pe_caughtY {CXy : CXT} {Ny : List Str} {qy : Str} {sy : Scope} {gy : Addr} {cdy : Value} {Ey : XK} {y : Str} {p0 : Pos} {te : TE} {k j : Nat} {pos p p1 p2 p3 p4 p5 p6 p7 p8 p9 p10 p11 p12 p13 p14 : Pos} {ga CS : Addr} {pg : Arguments} {sg : Scope} {dV kV doc pm cdv ct oc : Value} {an od : Option Addr} {osl : Array (Option Value)}
    (I : Inv X pins σ H s) (he : PE (cxOf CXy X.prog X.w X.K X.mg X.base Ny qy sy gy cdy X.A X.stack s H Ey).nox (.Name y p0) te)
    (hg : Gl (cxOf CXy X.prog X.w X.K X.mg X.base Ny qy sy gy cdy X.A X.stack s H Ey).nox "_law_caught") (hm : X.mg "_law_caught" = some (.ref ga)) (hk : PySem.W.keepIn X.K (.ref ga) = true)
    (lk : X.K.lookup ga = some ⟨oc, od, .func (PySem.W.fnOf "_law_caught" "_law_caught" pg (caughtB p1 p2 p3 p4 p5 p6 p7 p8 p9 p10 p11 p12 p13 p14 j) sg dV kV doc pm an cdv ct), osl⟩) (hcg : PySem.W.codeIn X.K cdv "_law_caught" = true)
    (hb : L2.Binds X.K (PySem.W.fnOf "_law_caught" "_law_caught" pg (caughtB p1 p2 p3 p4 p5 p6 p7 p8 p9 p10 p11 p12 p13 p14 j) sg dV kV doc pm an cdv ct) ["work"] []) (Sg : FnScope NC ["work"] sg) (hva : Vis sg "work")
    (hge : sg.names.lookup ("HoweverError" : Str) = some .globalImplicit) (hme : X.mg "HoweverError" = some (.ref CS)) (h1 : sg.names.lookup ("caught" : Str) = some .local) (h2 : sg.names.lookup ("error" : Str) = some .local)
    (hr : Room (k + 2) (X.A.deeper (envOfC qy sy s.heap.objs.size gy cdy))) :
    PE (cxOf CXy X.prog X.w X.K X.mg X.base Ny qy sy gy cdy X.A X.stack s H Ey).nox (.Call (.Name "_law_caught" p) [.Name y p0] [] pos) (tCauY X k σ CS te) := by
  refine ⟨fun pinsY sY σY HY Q IY h => ?_⟩
  refine wpAny_Call_Name_kw (ld_glob IY hg hm ?_ (by decide))
  refine PySem.W.callWith_K (h₀ := X.base) IY.ok.mod.kin hk ?_ (by rfl) (by rfl)
  refine Calls.spliced_cons (thn (he.run pinsY sY σY HY _ IY h) fun u s1 ⟨v, H1, I1, r1, q1⟩ => ?_)
  obtain ⟨f, c', params, body, scope, t, rfl, LT, hf, hc, tk⟩ := q1
  have r1 : u = Value.ref f := r1
  subst r1
  refine Calls.spliced_nil ⟨I1.kIn, ?_⟩
  have bt : Betw X H s (cxOf CXy X.prog X.w X.K X.mg X.base Ny qy sy gy cdy X.A X.stack s H Ey).stack H1 s1 := by
    refine ⟨I1.base, fun b hb nb => ?_⟩
    rcases List.mem_filterMap.mp hb with ⟨en, hen, hfr⟩
    rcases List.mem_cons.mp hen with z | z
    · subst z
      have z : s.heap.objs.size = b := Option.some.inj hfr
      cases q : s.heap.get? b with
      | none => rfl
      | some o => exact absurd (Heap.lt_size q) (by rw [z]; exact Nat.lt_irrefl _)
    · exact absurd (List.mem_filterMap.mpr ⟨en, z, hfr⟩) nb
  have run : codeAny (model X.prog X.w) (X.A.deeper (envOfC qy sy s.heap.objs.size gy cdy)) (.call (.ref ga) ⟨[.ref f], []⟩) (CR C8.CX0 (cxOf CXy X.prog X.w X.K X.mg X.base Ny qy sy gy cdy X.A X.stack s H Ey).stack X.prog X.w H1 s1 Q C8.E0) s1 := by
    refine run_ofS (N := NC) (us := [.ref f]) (vs := [.ref f]) (ps := ["work"]) lk hcg Sg hr I1.env0 (hb s1 [.ref f] I1.kIn rfl) (.cons rfl .nil) rfl fun hr2 => ?_
    have act : ∀ (W : WX) (pn : List (Addr × Obj)) (xe : Value → Shared → Prop) (E : XK) (p1 p2 : Pos), Takes ((cxOf C8.CX0 X.prog X.w X.K X.mg X.base NC "_law_caught" sg ga cdv (X.A.deeper (envOfC qy sy s.heap.objs.size gy cdy)) (envOfC qy sy s.heap.objs.size gy cdy :: X.stack) s1 H1 C8.E0).tr pn xe) W → (∀ cls d σ' H', E cls d H' → W cls d σ' H') →
      PE ((cxOf C8.CX0 X.prog X.w X.K X.mg X.base NC "_law_caught" sg ga cdv (X.A.deeper (envOfC qy sy s.heap.objs.size gy cdy)) (envOfC qy sy s.heap.objs.size gy cdy :: X.stack) s1 H1 C8.E0).tr pn xe) (.Call (.Name "work" p1) [] [] p2)
        (fun σZ HZ Q => σZ[0]? = some (some (.ref f)) ∧ HZ c' = some (CodeO c' (X.env.qual ++ "<lambda>")) ∧ HZ f = some (FnO (X.env.qual ++ "<lambda>") params body scope (cloFrom X.env.cells scope.names []) c' f) ∧ t E σ HZ Q) :=
      fun W pn xe E p1 p2 tk hW => pe_actT (k := k) (i := 0) (a := "work") (Ng := NC) I LT.L bt (fun _ _ => LT.bind _ _ _ _ _) tk hW hr2 (fun A outer s H r3 => LT.pe A outer s H E f c' r3) rfl hva (by decide +kernel) (by decide +kernel)
    obtain ⟨tt, u1, u2⟩ := keep_gives (X := cxOf CXy X.prog X.w X.K X.mg X.base Ny qy sy gy cdy X.A X.stack s H Ey) (x := "_law_caught") (q := X.env.qual ++ "<lambda>") (g := ga) (cdg := cdv) (k := j) hge hme h1 h2 f c' s1 H1 Q
      (fun E H' Q' => H' f = some (FnO (X.env.qual ++ "<lambda>") params body scope (cloFrom X.env.cells scope.names []) c' f) ∧ t E σ H' Q') act hc tk
    exact ⟨tt, u1.nox, u2⟩
  refine wpAny_call (codeAny_mono run fun r s2 hq => ?_)
  cases r with
  | error e => exact (show False from hq).elim
  | ok fl =>
    cases fl with
    | ret u => exact I1.after hq
    | next => exact hq.elim
    | brk => exact hq.elim
    | cont => exact hq.elim
end
end PV
end
section
set_option maxHeartbeats 4000000
/-! PvR: t[::-1] of a tuple, f(*a, k = b). -/
namespace PV
open PySem PySem.Spec PyProof.Rows L2
section
variable {prog : Program} {w : World} {A : Around} {E : Value → Shared → Prop} {s : Shared}
theorem adjust_rev (n : Nat) : Builtin.Slice.sliceAdjust none none (-1) (n : Int) = ((n : Int) - 1, -1) := by
  unfold Builtin.Slice.sliceAdjust
  simp
theorem places_rev (n : Nat) : Builtin.Slice.slicePlaces ((n : Int) - 1) (-1) (-1) = n := by
  unfold Builtin.Slice.slicePlaces
  simp only [show ¬ ((-1 : Int) > 0) by decide, if_false, show (- -1 : Int) = 1 by decide, Int.ediv_one]
  split <;> omega
theorem sliceApplied_rev {sl : Addr} {vl vu vs : Value} {n : Nat} {Q : Int × Int × Nat → Shared → Prop} (hs : s.heap.IsSliceOf sl vl vu vs) (pl : IsPart vl none) (pu : IsPart vu none) (ps : IsPart vs (some (-1)))
    (h : Q ((n : Int) - 1, -1, n) s) : wpAny (model prog w) A (Builtin.Slice.sliceApplied (.ref sl) (pure (n : Int))) Q E s := by
  obtain ⟨os, hos, hcs, hds⟩ := id hs
  unfold Builtin.Slice.sliceApplied Builtin.Slice.sliceFields
  refine wpAny_bind (wpAny_bind (wpAny_field hos hds (x := vl) rfl (wpAny_bind (wpAny_field hos hds (x := vu) rfl (wpAny_bind (wpAny_field hos hds (x := vs) rfl (wpAny_pure ?_)))))))
  refine wpAny_bind (HT.slicePart_ ps ?_)
  show wpAny _ _ (if ((-1 : Int) == 0) = true then _ else _) _ _ s
  rw [if_neg (by decide)]
  refine wpAny_bind (HT.slicePart_ pl (wpAny_bind (HT.slicePart_ pu (wpAny_bind (wpAny_pure ?_)))))
  show wpAny _ _ (match Builtin.Slice.sliceAdjust none none (-1) (n : Int) with | (lo, hi) => pure (lo, (-1 : Int), Builtin.Slice.slicePlaces lo hi (-1))) _ _ s
  rw [adjust_rev n]
  show wpAny _ _ (pure ((n : Int) - 1, (-1 : Int), Builtin.Slice.slicePlaces ((n : Int) - 1) (-1) (-1))) _ _ s
  rw [places_rev]
  exact wpAny_pure h
theorem fmap_map {α β : Type} {f : α → Option β} {h : α → β} : ∀ {l : List α}, (∀ x ∈ l, f x = some (h x)) → l.filterMap f = l.map h
  | [], _ => rfl
  | x :: l, q => by
    rw [List.filterMap_cons, q x List.mem_cons_self, List.map_cons, fmap_map fun y hy => q y (List.mem_cons_of_mem _ hy)]
theorem pick_rev (xs : Array Value) : ((List.range xs.size).filterMap fun (m : Nat) => xs[(((xs.size : Nat) : Int) - 1 + (m : Int) * -1).toNat]?).toArray = xs.toList.reverse.toArray := by
  have e : ((List.range xs.size).filterMap fun (m : Nat) => xs[(((xs.size : Nat) : Int) - 1 + (m : Int) * -1).toNat]?) = (List.range xs.size).map fun m => xs.toList.reverse.getD m .none := by
    refine fmap_map fun m hm => ?_
    have hm := List.mem_range.mp hm
    have e1 : (((xs.size : Nat) : Int) - 1 + (m : Int) * -1).toNat = xs.size - 1 - m := by omega
    rw [e1]
    have h2 : xs.size - 1 - m < xs.size := by omega
    rw [Array.getElem?_eq_getElem h2, List.getD_eq_getElem?_getD, List.getElem?_reverse (by simpa using hm)]
    simp only [Array.length_toList]
    rw [List.getElem?_eq_getElem (by simpa using h2)]
    simp
  rw [e]
  congr 1
  apply List.ext_getElem?
  intro k
  rw [List.getElem?_map]
  by_cases hk : k < xs.size
  · rw [List.getElem?_range hk]
    simp only [Option.map_some, List.getD_eq_getElem?_getD]
    rw [List.getElem?_eq_getElem (by simpa using hk)]
    rfl
  · rw [List.getElem?_eq_none (by simpa using hk), List.getElem?_eq_none (by simpa using hk)]
    rfl
theorem getItem_tuple_rev {t sl : Addr} {items : Array Value} {vl vu vs : Value} {Q : Value → Shared → Prop} (ht : IsTup s.heap t items) (hs : s.heap.IsSliceOf sl vl vu vs) (pl : IsPart vl none) (pu : IsPart vu none) (ps : IsPart vs (some (-1)))
    (h : Q (.ref s.heap.objs.size) { s with heap := s.heap.push { cls := .type "tuple", data := .seq items.toList.reverse.toArray } })
    (hsz : items.size ≤ sizeLine) : wpAny (model prog w) A (getItem (.ref t) (.ref sl)) Q E s := by
  have htake : sizeOk (.seq items.toList.reverse.toArray) := by
    show items.toList.reverse.toArray.size ≤ sizeLine
    rw [List.size_toArray, List.length_reverse, Array.length_toList]
    exact hsz
  obtain ⟨os, hos, hcs, hds⟩ := id hs
  have hTs : s.TypeIs (.ref sl) "slice" := ⟨os, hos, hcs⟩
  unfold getItem
  try with_reducible refine wpAny_holding ?_
  first | refine wpAny_bind (wpAny_pure ?_) | skip
  refine wpAny_bind (wpAny_sequenceKey ht.typeIs (by decide) ?_)
  refine wpAny_bind (wpAny_callSpecial?_slot (name := Str.ofString "__getitem__") ht.typeIs PyProof.Rows.slot_tuple_getitem
    (wpAny_call_entry PyProof.Rows.slot_tuple_getitem ht.typeIs entry_tuple_getitem ?_ (args_tuple_getitem _ _)))
  show wpAny _ _ (Builtin.Tuple.tupleItemsOf (.ref t) >>= _) _ _ s
  refine wpAny_bind (tupleItemsOf_ ht ?_)
  refine wpAny_bind (wpAny_typeOf hTs ?_)
  rw [if_pos (by decide)]
  refine wpAny_bind (sliceApplied_rev hs pl pu ps ?_)
  have hno : ¬ ((((items.size : Int) - 1 == 0) && (-1 : Int) == 1 && (items.size == items.size)) = true) := by
    intro q
    rw [Bool.and_eq_true, Bool.and_eq_true] at q
    exact absurd (eq_of_beq q.1.2) (by decide)
  show wpAny _ _ (if (((items.size : Int) - 1 == 0) && (-1 : Int) == 1 && (items.size == items.size)) = true then _ else _) _ _ s
  rw [if_neg hno, pick_rev]
  first
    | exact wpAny_bind (m := Builtin.Tuple.tupleExact _) (wpAny_newObj_type (wpAny_pure ⟨_, rfl, wpAny_pure h⟩) htake)
    | exact wpAny_bind (m := Builtin.Tuple.tupleExact _) (wpAny_newObj_type (wpAny_bind (wpAny_pure (wpAny_pure ⟨_, rfl, wpAny_pure h⟩))) htake)
    | exact wpAny_bind (wpAny_bind (m := Builtin.Tuple.tupleExact _) (wpAny_newObj_type (wpAny_pure (wpAny_pure ⟨_, rfl, wpAny_pure h⟩)) htake))
    | exact wpAny_bind (wpAny_bind (m := Builtin.Tuple.tupleExact _) (wpAny_newObj_type (wpAny_pure ⟨_, rfl, wpAny_pure h⟩) htake))
end
section
variable {X : Cx}
/-- e[::-1], e a list or a tuple -/
def tRevA (K : PySem.W.Frag) (te : TE) : TE := fun σ H Q => te σ H fun x H1 => ∃ a xs, x = .ref a ∧ ((SqL K H1 a xs ∧ ∀ p, H1 p = none → Q (.ref p) (upd H1 p (.lst xs.reverse))) ∨ (SqT K H1 a xs ∧ ∀ p, H1 p = none → Q (.ref p) (upd H1 p (.tup xs.reverse))))
theorem pe_revA {e : Expr} {te : TE} {k : Nat} {p1 p2 p3 pos : Pos} (he : PE X e te) : PE X (.Subscript e (.Slice none none (some (.UnaryOp .USub (.Constant (.int 1) k p1) p2)) p3) pos) (tRevA X.K te) := by
  refine ⟨fun pins s σ H Q I h => ?_⟩
  refine Subscript_ (thn (he.run pins s σ H _ I h) fun v s1 ⟨x, H1, I1, r1, q1⟩ => ?_)
  obtain ⟨a, xs, ex, q1⟩ := q1
  subst ex
  cases r1
  have hst : PO X (some (.UnaryOp .USub (.Constant (.int 1) k p1) p2)) (tPart (tUn (rU fun i => .int (-i)) (tC (.int 1)))) := po_some (pe_un un_neg pe_int)
  refine wpAny_Slice (thn (po_none.run pins s1 σ H1 (fun o H2 => o = none ∧ H2 = H1) I1 ⟨rfl, rfl⟩) fun vl s2 ⟨l, H2, I2, pl, el, e2⟩ => ?_)
  subst el e2
  refine thn (po_none.run pins s2 σ H2 (fun o H3 => o = none ∧ H3 = H2) I2 ⟨rfl, rfl⟩) fun vu s3 ⟨u, H3, I3, pu, eu, e3⟩ => ?_
  subst eu e3
  refine thn (hst.run pins s3 σ H3 (fun o H4 => o = some (-1) ∧ H4 = H3) I3 ⟨1, rfl, -1, rfl, rfl, rfl⟩) fun vs s4 ⟨o, H4, I4, ps, eo, e4⟩ => ?_
  subst eo e4
  have I5 : Inv X pins σ H4 { s4 with heap := s4.heap.push { cls := .type "slice", data := .fields #[vl, vu, vs] } } := I4.kept (t' := s4.toks) fun b ob q => Heap.get?_push_of_some _ q
  show wpAny (model X.prog X.w) X.A (subscriptTail e (.Slice none none (some (.UnaryOp .USub (.Constant (.int 1) k p1) p2)) p3) (.ref a) (.ref s4.heap.objs.size)) (EP X pins σ Q) X.xe { s4 with heap := s4.heap.push { cls := .type "slice", data := .fields #[vl, vu, vs] } }
  rcases q1 with ⟨hx, q⟩ | ⟨hx, q⟩
  · obtain ⟨its, r, ht, hz⟩ := I5.list hx
    have hlen := r.length
    refine tail_any (ops := [.ref a, .ref s4.heap.objs.size]) ht.isList.typeIs (PySem.slot_list_getitem.lookup) ?_ (by with_unfolding_all rfl)
    refine wpAny_getItem_list_slice ht.isList (Heap.IsSliceOf.new _ vl vu vs) pl pu ps (by decide) ?_ (by rw [List.size_toArray]; omega)
    rw [PySem.W.krv_pick]
    refine ⟨.ref _, _, I5.laid (t' := s4.toks) (o := .lst xs.reverse) (fun b ob q => Heap.get?_push_of_some _ q) (Nat.le_refl _) ?_, rfl, q _ (I5.hok.fresh (Nat.le_refl _))⟩
    exact ⟨by rw [List.length_reverse]; exact hz, _, 0, r.reverse, Heap.get?_push_size _ rfl⟩
  · obtain ⟨its, r, ht, hz⟩ := I5.tuple hx
    have hlen := r.length
    refine tail_any (ops := [.ref a, .ref s4.heap.objs.size]) ht.typeIs (PyProof.Rows.slot_tuple_getitem.lookup) ?_ (by with_unfolding_all rfl)
    refine getItem_tuple_rev ht (Heap.IsSliceOf.new _ vl vu vs) pl pu ps ?_ (by rw [List.size_toArray]; omega)
    refine ⟨.ref _, _, I5.laid (t' := s4.toks) (o := .tup xs.reverse) (fun b ob q => Heap.get?_push_of_some _ q) (Nat.le_refl _) ?_, rfl, q _ (I5.hok.fresh (Nat.le_refl _))⟩
    exact ⟨by rw [List.length_reverse]; exact hz, _, r.reverse, IsTup.new _ _⟩
end
end PV
end
section
set_option maxHeartbeats 4000000
/-! PvS2: operators and built-ins by plain data. -/
namespace PV
open PySem PySem.Spec PyProof.Rows L2
variable {g : G}
theorem limLine : lim = sizeLine := by rw [sizeLine_eq]; rfl
def OpS (g : G) (r : R2) (f : D → D → T D) : Prop := ∀ (H0 H1 Z H : Hp) (x y : D) (vx vy : V) (Q : VK) (E : Nat → Nat → Prop), Pre g Z H → RepR g H0 Z H vx x → RepR g H1 Z H vy y → (f x y).All (Post g Z H Q) E (g.bud H) → r vx vy H Q
/-- a comparison -/
def CmpS (g : G) (r : R2) (f : D → D → T Bool) : Prop := ∀ (H0 H1 Z H : Hp) (x y : D) (vx vy : V) (Q : VK) (E : Nat → Nat → Prop), Pre g Z H → RepR g H0 Z H vx x → RepR g H1 Z H vy y → (f x y).All (fun m k => m = g.bud H → Q (.bl k) H) E (g.bud H) → r vx vy H Q
theorem lenIf_ok {n : Nat} {d : D} {P : Nat → D → Prop} {E : Nat → Nat → Prop} {m : Nat} (h : (lenIf n d).All P E m) : n ≤ sizeLine ∧ P m d := by
  unfold lenIf at h
  split at h
  · rename_i q
    exact ⟨by rw [← limLine]; exact q, h⟩
  · exact h.elim
theorem cat_case {H0 H1 Z H : Hp} {x y : D} {vx vy : V} {Q : VK} {E : Nat → Nat → Prop} {xs ys : List D} (p : Pre g Z H) (rx : RepR g H0 Z H vx x) (ry : RepR g H1 Z H vy y) (ex : seqL x = some xs) (ey : seqL y = some ys)
    (h : (lenIf (xs.length + ys.length) (.new (xs ++ ys))).All (Post g Z H Q) E (g.bud H)) : rCat vx vy H Q := by
  obtain ⟨l, h⟩ := lenIf_ok h
  obtain ⟨a, vs, rfl, h1, h2, h3⟩ := rx.lst p ex
  obtain ⟨b, ws, rfl, k1, k2, k3⟩ := ry.lst p ey
  have hl : vs.length + ws.length ≤ sizeLine := by rw [h3.length, k3.length]; exact l
  exact ⟨a, b, vs, ws, rfl, rfl, h1, k1, hl, fun q hq => h.newL p (h3.append k3) (by rw [List.length_append]; exact hl) hq⟩
theorem ops_add : OpS g (fun x y H Q => rI0 (fun i j => .int (i + j)) x y H Q ∨ rCatA g.K x y H Q ∨ rCat x y H Q) addT := by
  intro H0 H1 Z H x y vx vy Q E p rx ry h
  unfold addT at h
  split at h
  · cases rx; cases ry
    exact .inl ⟨_, _, rfl, rfl, h.now p (.int _)⟩
  · rename_i xs ys
    obtain ⟨l, h⟩ := lenIf_ok h
    cases rx with
    | tup a1 a2 a3 =>
      cases ry with
      | tup b1 b2 b3 =>
        rename_i a vs b ws
        have hl : vs.length + ws.length ≤ sizeLine := by rw [a3.length, b3.length]; exact l
        refine .inr (.inl ⟨a, b, vs, ws, rfl, rfl, .of (p.zh _ _ a1), .of (p.zh _ _ b1), hl, fun e => ?_, fun _ e => ?_, fun _ _ q hq => ?_⟩)
        · subst e
          cases a3
          exact h.now p (.tup b1 b2 b3)
        · subst e
          cases b3
          rw [List.append_nil] at h
          exact h.now p (.tup a1 a2 a3)
        · exact h.newT p (a3.append b3) (by rw [List.length_append]; exact hl) hq
  · exact .inr (.inr (cat_case p rx ry rfl rfl h))
  · exact .inr (.inr (cat_case p rx ry rfl rfl h))
  · exact .inr (.inr (cat_case p rx ry rfl rfl h))
  · exact .inr (.inr (cat_case p rx ry rfl rfl h))
  · exact .inr (.inr (cat_case p rx ry rfl rfl h))
  · exact .inr (.inr (cat_case p rx ry rfl rfl h))
  · exact h.elim
theorem ops_sub : OpS g (rI0 fun i j => .int (i - j)) subT := by
  intro H0 H1 Z H x y vx vy Q E p rx ry h
  unfold subT at h
  split at h
  · cases rx; cases ry
    exact ⟨_, _, rfl, rfl, h.now p (.int _)⟩
  · exact h.elim
theorem mulOk_ok {i j : Int} (h : mulOk i j = true) : CMul i j := by
  simp [mulOk] at h
  rcases h with h | h
  · exact .inl (by simpa using h)
  · exact .inr (by simpa using h)
theorem rep_len {vs : List V} {n : Nat} (h1 : n ≤ 1000) (h2 : vs.length ≤ 1000) : (List.replicate n vs).flatten.length ≤ sizeLine := by
  have : (List.replicate n vs).flatten.length = n * vs.length := by simp [List.length_flatten]
  rw [this, sizeLine_eq]
  exact Nat.le_trans (Nat.mul_le_mul h1 h2) (by decide)
theorem rep_case {H0 H1 Z H : Hp} {x : D} {k : Int} {vx vy : V} {Q : VK} {E : Nat → Nat → Prop} {xs : List D} (p : Pre g Z H) (rx : RepR g H0 Z H vx x) (ry : RepR g H1 Z H vy (.int k)) (ex : seqL x = some xs)
    (h : (if xs.length ≤ 1000 ∧ 0 ≤ k ∧ k ≤ 1000 then T.ret (D.new (List.replicate k.toNat xs).flatten) else .bad).All (Post g Z H Q) E (g.bud H)) : rRep vx vy H Q := by
  split at h
  · rename_i c
    obtain ⟨c1, c2, c3⟩ := c
    obtain ⟨a, vs, rfl, h1, h2, h3⟩ := rx.lst p ex
    cases ry
    have hl := h3.length
    refine ⟨a, k, vs, rfl, rfl, h1, by omega, by omega, ?_, fun q hq => h.newL p (h3.rep _) (rep_len (by omega) (by omega)) hq⟩
    rw [sizeLine_eq]
    exact Nat.le_trans (Nat.mul_le_mul (show vs.length ≤ 1000 by omega) (show k.toNat ≤ 1000 by omega)) (by decide)
  · exact h.elim
theorem ops_mul : OpS g (fun x y H Q => rI CMul (fun i j => .int (i * j)) x y H Q ∨ rRepT g.K x y H Q ∨ rRep x y H Q) mulT := by
  intro H0 H1 Z H x y vx vy Q E p rx ry h
  unfold mulT at h
  split at h
  · split at h
    · rename_i c
      cases rx; cases ry
      exact .inl ⟨_, _, rfl, rfl, mulOk_ok c, h.now p (.int _)⟩
    · exact h.elim
  · split at h
    · rename_i c
      obtain ⟨c1, c2, c3, c4⟩ := c
      cases ry
      cases rx with
      | tup a1 a2 a3 =>
        have hl := a3.length
        refine .inr (.inl ⟨_, _, _, rfl, rfl, .of (p.zh _ _ a1), fun e => ?_, c3, c4, by omega, fun q hq => ?_⟩)
        · subst e
          cases a3
          exact c1 rfl
        · refine h.newT p (a3.rep _) ?_ hq
          exact rep_len (by omega) (by omega)
    · exact h.elim
  · exact .inr (.inr (rep_case p rx ry rfl h))
  · exact .inr (.inr (rep_case p rx ry rfl h))
  · exact .inr (.inr (rep_case p rx ry rfl h))
  · exact h.elim
theorem ops_fdiv : OpS g (rI CDivW fun i j => .int (i / j)) fdivT := by
  intro H0 H1 Z H x y vx vy Q E p rx ry h
  unfold fdivT at h
  split at h
  · split at h
    · rename_i c
      cases rx; cases ry
      exact ⟨_, _, rfl, rfl, wide_div (b := 200) c.1 (by have := c.2; omega) (by decide) (by decide), h.now p (.int _)⟩
    · exact h.elim
  · exact h.elim
theorem ops_mod : OpS g (rI (fun _ j => 0 < j) fun i j => .int (i % j)) modT := by
  intro H0 H1 Z H x y vx vy Q E p rx ry h
  unfold modT at h
  split at h
  · split at h
    · rename_i c
      cases rx; cases ry
      exact ⟨_, _, rfl, rfl, c, h.now p (.int _)⟩
    · exact h.elim
  · exact h.elim
theorem ops_pow : OpS g (rI CPow fun i j => .int (i ^ j.toNat)) powT := by
  intro H0 H1 Z H x y vx vy Q E p rx ry h
  unfold powT at h
  split at h
  · split at h
    · rename_i c
      cases rx; cases ry
      exact ⟨_, _, rfl, rfl, ⟨c.1, by have := c.2.1; omega, c.2.2⟩, h.now p (.int _)⟩
    · exact h.elim
  · exact h.elim

theorem cmp_lt : CmpS g (fun x y H Q => rI0 (fun i j => .bl (decide (i < j))) x y H Q ∨ rLtT g.K x y H Q) ltT := by
  intro H0 H1 Z H x y vx vy Q E p rx ry h
  unfold ltT at h
  split at h
  · cases rx; cases ry
    exact .inl ⟨_, _, rfl, rfl, h rfl⟩
  · split at h
    · rename_i ns ms e1 e2
      cases rx with
      | tup a1 a2 a3 =>
        cases ry with
        | tup b1 b2 b3 =>
          have z1 := a3.intsI e1
          have z2 := b3.intsI e2
          subst z1 z2
          exact .inr ⟨_, _, _, _, rfl, rfl, .of (p.zh _ _ a1), .of (p.zh _ _ b1), h rfl⟩
    · exact h.elim
  · exact h.elim
theorem cmp_le : CmpS g (rI0 fun i j => .bl (decide (i ≤ j))) leT := by
  intro H0 H1 Z H x y vx vy Q E p rx ry h
  unfold leT at h
  split at h
  · cases rx; cases ry
    exact ⟨_, _, rfl, rfl, h rfl⟩
  · exact h.elim
theorem cmp_gt : CmpS g (rI0 fun i j => .bl (decide (j < i))) gtT := by
  intro H0 H1 Z H x y vx vy Q E p rx ry h
  unfold gtT at h
  split at h
  · cases rx; cases ry
    exact ⟨_, _, rfl, rfl, h rfl⟩
  · exact h.elim
theorem cmp_ge : CmpS g (rI0 fun i j => .bl (decide (j ≤ i))) geT := by
  intro H0 H1 Z H x y vx vy Q E p rx ry h
  unfold geT at h
  split at h
  · cases rx; cases ry
    exact ⟨_, _, rfl, rfl, h rfl⟩
  · exact h.elim
theorem deq_ok {a b : D} {P : Nat → Bool → Prop} {E : Nat → Nat → Prop} {m : Nat} (h : (deq a b).All P E m) : okPy a = true ∧ okPy b = true ∧ P m (PyData.eqv a.toPy b.toPy) := by
  unfold deq at h
  split at h
  · rename_i c
    rw [Bool.and_eq_true] at c
    exact ⟨c.1, c.2, h⟩
  · exact h.elim
theorem cmp_eq : CmpS g (rEqD g.K) deq := by
  intro H0 H1 Z H x y vx vy Q E p rx ry h
  obtain ⟨c1, c2, h⟩ := deq_ok h
  exact ⟨_, _, rx.dp p c1, ry.dp p c2, c1, c2, h rfl⟩
theorem cmp_ne : CmpS g (rNeD g.K) neT := by
  intro H0 H1 Z H x y vx vy Q E p rx ry h
  unfold neT at h
  rw [all_bind] at h
  obtain ⟨c1, c2, h⟩ := deq_ok h
  exact ⟨_, _, rx.dp p c1, ry.dp p c2, c1, c2, h rfl⟩
theorem isNon_ok {H0 Z H : Hp} {a : D} {v : V} {P : Nat → Bool → Prop} {E : Nat → Nat → Prop} {m : Nat} (r : RepR g H0 Z H v a) (h : (isNon a).All P E m) : P m (decide (v = .non)) := by
  cases a <;> first
    | exact h.elim
    | (cases r <;> exact h)
theorem isB_ok {H1 Z H : Hp} {x : D} {k : Bool} {vx : V} {P : Nat → Bool → Prop} {E : Nat → Nat → Prop} {m : Nat} (rx : RepR g H1 Z H vx x) (h : (isB x k).All P E m) : ∃ j, vx = .bl j ∧ P m (decide (j = k)) := by
  unfold isB at h
  split at h
  · cases rx
    exact ⟨_, rfl, h⟩
  · exact h.elim
theorem cmp_is : CmpS g (fun x y H Q => (y = .non ∧ Q (.bl (decide (x = .non))) H) ∨ rIsB x y H Q) isT := by
  intro H0 H1 Z H x y vx vy Q E p rx ry h
  unfold isT at h
  split at h
  · cases ry
    exact .inl ⟨rfl, isNon_ok (P := fun m k => m = g.bud H → Q (.bl k) H) rx h rfl⟩
  · cases ry
    obtain ⟨j, e, q⟩ := isB_ok rx h
    exact .inr ⟨_, _, e, rfl, q rfl⟩
  · exact h.elim
theorem cmp_isn : CmpS g (fun x y H Q => (y = .non ∧ Q (.bl (!decide (x = .non))) H) ∨ rNotB x y H Q) isnT := by
  intro H0 H1 Z H x y vx vy Q E p rx ry h
  unfold isnT at h
  rw [all_bind] at h
  unfold isT at h
  split at h
  · cases ry
    exact .inl ⟨rfl, isNon_ok (P := fun m k => m = g.bud H → Q (.bl (!k)) H) rx h rfl⟩
  · cases ry
    obtain ⟨j, e, q⟩ := isB_ok rx h
    exact .inr ⟨_, _, e, rfl, q rfl⟩
  · exact h.elim
theorem flat_V {Z : Hp} {v : V} {d : D} (r : Rep g Z v d) (h : flat d = true) : flatV v = true := by
  cases r <;> first | rfl | cases h
theorem flat_Vs {Z : Hp} : ∀ {vs : List V} {ds : List D}, Reps g Z vs ds → ds.all flat = true → vs.all flatV = true
  | _, _, .nil, _ => rfl
  | _, _, .cons r t, h => by
    rw [List.all_cons, Bool.and_eq_true] at h
    rw [List.all_cons, flat_V r h.1, flat_Vs t h.2]
    rfl
theorem eqV_eqv {Z Z' : Hp} {v w : V} {d e : D} (r : Rep g Z v d) (s : Rep g Z' w e) (h : flat d = true) (h' : flat e = true) : eqV v w = PyData.eqv d.toPy e.toPy := by
  cases r <;> first
    | exact absurd h Bool.false_ne_true
    | (cases s <;> first | exact absurd h' Bool.false_ne_true | rfl | simp [eqV, D.toPy, PyData.eqv])
theorem inV_eqv {Z Z' : Hp} {w : V} {e : D} (s : Rep g Z' w e) (h' : flat e = true) : ∀ {vs : List V} {ds : List D}, Reps g Z vs ds → ds.all flat = true → inV w vs = ds.any fun y => PyData.eqv y.toPy e.toPy
  | _, _, .nil, _ => rfl
  | v :: vs, d :: ds, .cons r t, h => by
    rw [List.all_cons, Bool.and_eq_true] at h
    have q := inV_eqv s h' t h.2
    unfold inV at q ⊢
    rw [List.any_cons, List.any_cons, q, eqV_eqv r s h.1 h']
theorem flat_rep {H0 Z H : Hp} {v : V} {d : D} (r : RepR g H0 Z H v d) (h : flat d = true) : Rep g Z v d := by
  cases d <;> first | exact r | cases h
theorem inn_ok {H0 H1 Z H : Hp} {x ys : D} {vx vy : V} {P : Nat → Bool → Prop} {E : Nat → Nat → Prop} {m : Nat} (p : Pre g Z H) (rx : RepR g H0 Z H vx x) (ry : RepR g H1 Z H vy ys) (h : (innT x ys).All P E m) :
    ∃ a vs, vy = .ref a ∧ (SqL g.K H a vs ∨ SqT g.K H a vs) ∧ flatV vx = true ∧ vs.all flatV = true ∧ P m (inV vx vs) := by
  unfold innT at h
  split at h
  · rename_i ds e
    split at h
    · rename_i c
      obtain ⟨a, vs, rfl, h1, h2, h3⟩ := ry.seq p e
      have fx := flat_rep rx c.1
      exact ⟨a, vs, rfl, h1, flat_V fx c.1, flat_Vs h3 c.2, by rw [inV_eqv fx c.1 h3 c.2]; exact h⟩
    · exact h.elim
  · exact h.elim
theorem cmp_inn : CmpS g (rIn g.K false) innT := by
  intro H0 H1 Z H x y vx vy Q E p rx ry h
  obtain ⟨a, vs, rfl, h1, h2, h3, h4⟩ := inn_ok p rx ry h
  exact ⟨a, vs, rfl, h1, h2, h3, h4 rfl⟩
theorem cmp_nin : CmpS g (rIn g.K true) ninT := by
  intro H0 H1 Z H x y vx vy Q E p rx ry h
  unfold ninT at h
  rw [all_bind] at h
  obtain ⟨a, vs, rfl, h1, h2, h3, h4⟩ := inn_ok p rx ry h
  exact ⟨a, vs, rfl, h1, h2, h3, h4 rfl⟩

/-! ### items, slices -/
theorem Reps.atI {Z : Hp} {vs : List V} {ds : List D} {i : Int} {d : D} (r : Reps g Z vs ds) (h : atD ds i = some d) : ∃ v, L2.atI vs i = some v ∧ Rep g Z v d := by
  unfold atD L2.atI at h
  unfold L2.atI
  rw [r.length]
  cases e : L2.ixN ds.length i with
  | none => rw [e] at h; cases h
  | some j =>
    rw [e] at h
    exact r.get h
theorem ops_idx : OpS g (rIx g.K) idxT := by
  intro H0 H1 Z H x y vx vy Q E p rx ry h
  have key : ∀ {ds : List D} {i : Int}, items x = some ds → RepR g H1 Z H vy (.int i) → (ofO (atD ds i)).All (Post g Z H Q) E (g.bud H) → rIx g.K vx vy H Q := fun {ds i} e ri h => by
    obtain ⟨a, vs, rfl, h1, h2, h3⟩ := rx.seq p e
    cases ri
    cases q : atD ds i with
    | none => rw [q] at h; exact h.elim
    | some d =>
      rw [q] at h
      obtain ⟨v, k1, k2⟩ := h3.atI q
      rcases h1 with h1 | h1
      · exact .inl ⟨a, vs, i, v, rfl, rfl, h1, k1, h.now p k2⟩
      · exact .inr (.inl ⟨a, vs, i, v, rfl, rfl, h1, k1, h.now p k2⟩)
  unfold idxT at h
  split at h
  · exact key rfl ry h
  · exact key rfl ry h
  · exact key rfl ry h
  · exact key rfl ry h
  · exact h.elim
theorem Reps.cut {Z : Hp} {vs : List V} {ds : List D} (lo hi : Option Int) (r : Reps g Z vs ds) : Reps g Z (cutV vs lo hi) (cutD ds lo hi) := by
  unfold cutV cutD
  rw [r.length]
  exact (r.drop _).take _
theorem cut_whole {α : Type} {xs : List α} {i n : Nat} (h1 : i = 0) (h2 : n = xs.length) : (xs.drop i).take (n - i) = xs := by
  subst h1 h2
  rw [List.drop_zero, Nat.sub_zero, List.take_length]
theorem slc_ok {H0 Z H : Hp} {x : D} {vx : V} {lo hi : Option Int} {Q : VK} {E : Nat → Nat → Prop} (p : Pre g Z H) (rx : RepR g H0 Z H vx x) (h : (slcT x lo hi).All (Post g Z H Q) E (g.bud H)) : rSlL g.K vx lo hi H Q ∨ rSlA g.K vx lo hi H Q := by
  have key : ∀ {ds : List D}, seqL x = some ds → Post g Z H Q (g.bud H) (.new (cutD ds lo hi)) → rSlL g.K vx lo hi H Q ∨ rSlA g.K vx lo hi H Q := fun {ds} e h => by
    obtain ⟨a, vs, rfl, h1, h2, h3⟩ := rx.lst p e
    exact .inl ⟨a, vs, rfl, .of h1, fun q hq => h.newL p (h3.cut lo hi) (Nat.le_trans (cutV_length _ _ _) h2) hq⟩
  unfold slcT at h
  split at h
  · cases rx with
    | tup a1 a2 a3 =>
      refine .inr ⟨_, _, rfl, .of (p.zh _ _ a1), fun c => ?_, fun _ q hq => h.newT p (a3.cut lo hi) (Nat.le_trans (cutV_length _ _ _) a2) hq⟩
      rename_i xs a vs
      have e : cutD xs lo hi = xs := cut_whole (by rw [← a3.length]; exact c.1) (by rw [← a3.length]; exact c.2)
      rw [e] at h
      exact h.now p (.tup a1 a2 a3)
  · exact key rfl h
  · exact key rfl h
  · exact key rfl h
  · exact h.elim

/-! ### built-in calls -/
inductive RepRs (g : G) (H Z' H' : Hp) : List V → List D → Prop
  | nil : RepRs g H Z' H' [] []
  | cons {v : V} {vs : List V} {d : D} {ds : List D} : RepR g H Z' H' v d → RepRs g H Z' H' vs ds → RepRs g H Z' H' (v :: vs) (d :: ds)
theorem RepRs.step {H Z1 H1 Z2 H2 : Hp} (s : Step g Z1 H1 Z2 H2) : ∀ {vs : List V} {ds : List D}, RepRs g H Z1 H1 vs ds → RepRs g H Z2 H2 vs ds
  | _, _, .nil => .nil
  | _, _, .cons r t => .cons (r.step s) (RepRs.step s t)
theorem RepRs.back {H Z H1 Z1 Z2 H2 : Hp} (s : Step g Z H Z1 H1) : ∀ {vs : List V} {ds : List D}, RepRs g H1 Z2 H2 vs ds → RepRs g H Z2 H2 vs ds
  | _, _, .nil => .nil
  | _, _, .cons r t => .cons (r.back s) (RepRs.back s t)
def BltS (g : G) (r : List V → Hp → VK → Prop) (f : List D → T D) : Prop := ∀ (H0 Z H : Hp) (xs : List D) (vs : List V) (Q : VK) (E : Nat → Nat → Prop), Pre g Z H → RepRs g H0 Z H vs xs → (f xs).All (Post g Z H Q) E (g.bud H) → r vs H Q
theorem RepRs.one {H0 Z H : Hp} {vs : List V} {d : D} (r : RepRs g H0 Z H vs [d]) : ∃ v, vs = [v] ∧ RepR g H0 Z H v d := by
  cases r with
  | cons r t => cases t; exact ⟨_, rfl, r⟩
theorem RepRs.two {H0 Z H : Hp} {vs : List V} {d e : D} (r : RepRs g H0 Z H vs [d, e]) : ∃ v w, vs = [v, w] ∧ RepR g H0 Z H v d ∧ RepR g H0 Z H w e := by
  cases r with
  | cons r t =>
    obtain ⟨w, rfl, q⟩ := t.one
    exact ⟨_, _, rfl, r, q⟩
theorem seqI_ok {H0 Z H : Hp} {v : V} {d : D} {ns : List Int} (p : Pre g Z H) (r : RepR g H0 Z H v d) (h : seqI d = some ns) : ∃ a, v = .ref a ∧ SqL g.K H a (ns.map V.int) ∧ ns.length ≤ sizeLine := by
  unfold seqI at h
  obtain ⟨ds, h1, h2⟩ := Option.bind_eq_some_iff.mp h
  obtain ⟨a, vs, rfl, k1, k2, k3⟩ := r.lst p h1
  have e := k3.intsI h2
  subst e
  exact ⟨a, rfl, .of k1, by rw [List.length_map] at k2; exact k2⟩
theorem seqB_ok {H0 Z H : Hp} {v : V} {d : D} {ns : List Bool} (p : Pre g Z H) (r : RepR g H0 Z H v d) (h : seqB d = some ns) : ∃ a, v = .ref a ∧ SqL g.K H a (ns.map V.bl) := by
  unfold seqB at h
  obtain ⟨ds, h1, h2⟩ := Option.bind_eq_some_iff.mp h
  obtain ⟨a, vs, rfl, k1, k2, k3⟩ := r.lst p h1
  have e := k3.blsI h2
  subst e
  exact ⟨a, rfl, .of k1⟩
theorem blt_abs : BltS g (fun xs H Q => ∃ i, xs = [.int i] ∧ Q (.int (if i < 0 then -i else i)) H) absB := by
  intro H0 Z H xs vs Q E p r h
  unfold absB at h
  split at h
  · obtain ⟨v, rfl, rv⟩ := r.one
    cases rv
    exact ⟨_, rfl, h.now p (.int _)⟩
  · exact h.elim
theorem foldl_max_ge (xs : List Int) : ∀ x : Int, x ≤ xs.foldl max x ∧ (∀ y ∈ xs, y ≤ xs.foldl max x) ∧ (xs.foldl max x = x ∨ xs.foldl max x ∈ xs) := by
  induction xs with
  | nil => intro x; simp
  | cons y ys ih =>
    intro x
    obtain ⟨h1, h2, h3⟩ := ih (max x y)
    rw [List.foldl_cons]
    refine ⟨by omega, fun z hz => ?_, ?_⟩
    · rcases List.mem_cons.mp hz with e | e
      · subst e; omega
      · exact h2 z e
    · rcases h3 with e | e
      · rw [e]
        by_cases q : x ≤ y
        · right; rw [show max x y = y by omega]; exact List.mem_cons_self
        · left; omega
      · right; exact List.mem_cons_of_mem _ e
theorem foldl_min_le (xs : List Int) : ∀ x : Int, xs.foldl min x ≤ x ∧ (∀ y ∈ xs, xs.foldl min x ≤ y) ∧ (xs.foldl min x = x ∨ xs.foldl min x ∈ xs) := by
  induction xs with
  | nil => intro x; simp
  | cons y ys ih =>
    intro x
    obtain ⟨h1, h2, h3⟩ := ih (min x y)
    rw [List.foldl_cons]
    refine ⟨by omega, fun z hz => ?_, ?_⟩
    · rcases List.mem_cons.mp hz with e | e
      · subst e; omega
      · exact h2 z e
    · rcases h3 with e | e
      · rw [e]
        by_cases q : x ≤ y
        · left; omega
        · right; rw [show min x y = y by omega]; exact List.mem_cons_self
      · right; exact List.mem_cons_of_mem _ e
theorem maxL_ok {ns : List Int} {m : Int} (h : maxL ns = some m) : 0 < ns.length ∧ ∀ k, k ∈ ns → (∀ y, y ∈ ns → y ≤ k) → k = m := by
  cases ns with
  | nil => cases h
  | cons x xs =>
    obtain ⟨h1, h2, h3⟩ := foldl_max_ge xs x
    cases h
    refine ⟨by simp, fun k hk hy => ?_⟩
    have a : k ≤ xs.foldl max x := by
      rcases List.mem_cons.mp hk with e | e
      · subst e; exact h1
      · exact h2 k e
    have b : xs.foldl max x ≤ k := by
      rcases h3 with e | e
      · rw [e]; exact hy x List.mem_cons_self
      · exact hy _ (List.mem_cons_of_mem _ e)
    omega
theorem minL_ok {ns : List Int} {m : Int} (h : minL ns = some m) : 0 < ns.length ∧ ∀ k, k ∈ ns → (∀ y, y ∈ ns → k ≤ y) → k = m := by
  cases ns with
  | nil => cases h
  | cons x xs =>
    obtain ⟨h1, h2, h3⟩ := foldl_min_le xs x
    cases h
    refine ⟨by simp, fun k hk hy => ?_⟩
    have a : xs.foldl min x ≤ k := by
      rcases List.mem_cons.mp hk with e | e
      · subst e; exact h1
      · exact h2 k e
    have b : k ≤ xs.foldl min x := by
      rcases h3 with e | e
      · rw [e]; exact hy x List.mem_cons_self
      · exact hy _ (List.mem_cons_of_mem _ e)
    omega
section
open PyProof
variable {prog : Program} {w : World} {A : Around} {E : Value → Shared → Prop} {s : Shared} {l : Addr} {xs : Array (Int × Tok)} {its : List Value} {ns : List Int} {Q : Value → Shared → Prop}
theorem iter_intTuple (hl : s.heap.IsTuple l (intItems xs))
    (h : ∀ s₂ : Shared, s₂ = { s with heap := s.heap.push { cls := .type "tuple_iterator", data := .fields #[.ref l, .int 0 0] } } →
      (s₂.heap.IsTupleIter s.heap.objs.size l 0 ∧ s₂.heap.IsTuple l (intItems xs)) → (∀ b ∈ [s.heap.objs.size, l], b < s₂.heap.objs.size) → l ≠ s.heap.objs.size → Q (.ref s.heap.objs.size) s₂) :
    wpAny (model prog w) A (pyIter (.ref l)) Q E s := by
  have hlt : l < s.heap.objs.size := by obtain ⟨_, e, _⟩ := hl; exact Heap.lt_size e
  refine wpAny_pyIter_tuple hl (h _ rfl ⟨⟨_, Heap.get?_push_size _ rfl, rfl, rfl⟩, hl.push _⟩ (fun b hb => ?_) (Nat.ne_of_lt hlt))
  show b < (s.heap.push _).objs.size
  rw [Heap.size_push]
  rcases List.mem_cons.mp hb with rfl | hb
  · exact Nat.lt_succ_self _
  · rcases List.mem_cons.mp hb with rfl | hb
    · exact Nat.lt_succ_of_lt hlt
    · cases hb
theorem old_keptT {h' : Heap} (hk : ∀ b o, b ∉ [s.heap.objs.size] → (s.heap.push { cls := .type "tuple_iterator", data := .fields #[.ref l, .int 0 0] }).get? b = some o → h'.get? b = some o) :
    ∀ b o, s.heap.get? b = some o → h'.get? b = some o := fun b o e => by
  refine hk b o (fun hm => ?_) (Heap.get?_push_of_some _ e)
  rcases List.mem_cons.mp hm with e1 | hm
  · exact absurd (e1 ▸ Heap.lt_size e) (Nat.lt_irrefl _)
  · cases hm
theorem sum_rawT (hh : A.handled = none) (hl : s.heap.IsTuple l its.toArray) (hi : IntsAre its ns)
    (h : ∀ h' tk t', (∀ b o, s.heap.get? b = some o → h'.get? b = some o) → Q (.int ns.sum t') { s with heap := h', toks := tk }) : wpAny (model prog w) A (call (.builtin "sum") [.ref l]) Q E s := by
  obtain ⟨xs, e⟩ := hi.allInts.items
  have hn : numsOf (intItems xs).toList = ns := by rw [← e]; exact hi.numsOf
  rw [nums_intItems] at hn
  rw [e] at hl
  refine call_sum_walkG (iter_intTuple hl fun s₂ e st hfp hlI => ?_)
  subst e
  refine ⟨_, _, _, _, _, _, numAt xs, rfl, Walks.tuple (A := A.in1) hh _ l hlI (intItems xs), st, hfp, (fun _ _ => intItems_at), fun h' tk t' hk => ?_⟩
  have := h h' tk t' (old_keptT hk)
  have e2 : preSum (numAt xs) xs.size = ns.sum := by rw [preSum_eq, List.take_of_length_le (by simp), hn]
  rw [← e2] at this
  simpa [intItems] using this
theorem max_rawT (hh : A.handled = none) (hl : s.heap.IsTuple l its.toArray) (hi : IntsAre its ns) (hne : 0 < ns.length)
    (h : ∀ h' tk M t', (∀ b o, s.heap.get? b = some o → h'.get? b = some o) → M ∈ ns → (∀ a, a ∈ ns → a ≤ M) → Q (.int M t') { s with heap := h', toks := tk }) : wpAny (model prog w) A (call (.builtin "max") [.ref l]) Q E s := by
  obtain ⟨xs, e⟩ := hi.allInts.items
  have hn : numsOf (intItems xs).toList = ns := by rw [← e]; exact hi.numsOf
  rw [nums_intItems] at hn
  subst hn
  rw [e] at hl
  have hsz : 0 < xs.size := by simpa using hne
  refine call_max_walk (iter_intTuple hl fun s₂ e st hfp hlI => ?_)
  subst e
  refine ⟨_, _, _, _, _, _, _, rfl, Walks.tuple (A := A.in1) hh _ l hlI (intItems xs), st, hfp, by simpa [intItems] using hsz, CmpOf.ints_gt (numAt xs) (fun _ _ => intItems_at), fun v h' tk hP hk => ?_⟩
  have hv : (intItems xs)[argBest (fun i j => decide (numAt xs i > numAt xs j)) (xs.size - 1)]? = some v := by simpa [intItems] using hP
  obtain ⟨t, rfl⟩ := intItems_at hv
  obtain ⟨h1, h2⟩ := argBest_gt (numAt xs) (xs.size - 1)
  refine h h' tk _ t (old_keptT hk) ?_ fun a ha => ?_
  · rw [numAt_eq]; exact PySem.getD_mem (by rw [List.length_map, Array.length_toList]; omega)
  · obtain ⟨j, hj, rfl⟩ := mem_getD ha
    rw [List.length_map, Array.length_toList] at hj
    rw [← numAt_eq]; exact h2 j (by omega)
theorem min_rawT (hh : A.handled = none) (hl : s.heap.IsTuple l its.toArray) (hi : IntsAre its ns) (hne : 0 < ns.length)
    (h : ∀ h' tk M t', (∀ b o, s.heap.get? b = some o → h'.get? b = some o) → M ∈ ns → (∀ a, a ∈ ns → M ≤ a) → Q (.int M t') { s with heap := h', toks := tk }) : wpAny (model prog w) A (call (.builtin "min") [.ref l]) Q E s := by
  obtain ⟨xs, e⟩ := hi.allInts.items
  have hn : numsOf (intItems xs).toList = ns := by rw [← e]; exact hi.numsOf
  rw [nums_intItems] at hn
  subst hn
  rw [e] at hl
  have hsz : 0 < xs.size := by simpa using hne
  refine call_min_walk (iter_intTuple hl fun s₂ e st hfp hlI => ?_)
  subst e
  refine ⟨_, _, _, _, _, _, _, rfl, Walks.tuple (A := A.in1) hh _ l hlI (intItems xs), st, hfp, by simpa [intItems] using hsz, CmpOf.ints_lt (numAt xs) (fun _ _ => intItems_at), fun v h' tk hP hk => ?_⟩
  have hv : (intItems xs)[argBest (fun i j => decide (numAt xs i < numAt xs j)) (xs.size - 1)]? = some v := by simpa [intItems] using hP
  obtain ⟨t, rfl⟩ := intItems_at hv
  obtain ⟨h1, h2⟩ := argBest_lt (numAt xs) (xs.size - 1)
  refine h h' tk _ t (old_keptT hk) ?_ fun a ha => ?_
  · rw [numAt_eq]; exact PySem.getD_mem (by rw [List.length_map, Array.length_toList]; omega)
  · obtain ⟨j, hj, rfl⟩ := mem_getD ha
    rw [List.length_map, Array.length_toList] at hj
    rw [← numAt_eq]; exact h2 j (by omega)
end
def rMaxT (K : PySem.W.Frag) : List V → Hp → VK → Prop := fun vs H Q => ∃ (a : Addr) (ns : List Int), vs = [V.ref a] ∧ SqT K H a (ns.map V.int) ∧ 0 < ns.length ∧ ∀ m, m ∈ ns → (∀ y, y ∈ ns → y ≤ m) → Q (.int m) H
def rMinT (K : PySem.W.Frag) : List V → Hp → VK → Prop := fun vs H Q => ∃ (a : Addr) (ns : List Int), vs = [V.ref a] ∧ SqT K H a (ns.map V.int) ∧ 0 < ns.length ∧ ∀ m, m ∈ ns → (∀ y, y ∈ ns → m ≤ y) → Q (.int m) H
theorem cr_maxT {X : Cx} (hc : X.calm = true) : CallR X (.builtin "max") (rMaxT X.K) := by
  intro pins s σ H vs us Q I r h
  obtain ⟨a, ns, rfl, hs, hne, q⟩ := h
  obtain ⟨its, rv, hl, _⟩ := I.tuple hs
  rw [Vals.ref1 r]
  exact max_rawT (I.ok.hd hc) hl rv.ints hne fun h' tk m t' hk h1 h2 => ⟨.int _, H, I.kept hk, ⟨_, rfl⟩, q m h1 h2⟩
theorem cr_minT {X : Cx} (hc : X.calm = true) : CallR X (.builtin "min") (rMinT X.K) := by
  intro pins s σ H vs us Q I r h
  obtain ⟨a, ns, rfl, hs, hne, q⟩ := h
  obtain ⟨its, rv, hl, _⟩ := I.tuple hs
  rw [Vals.ref1 r]
  exact min_rawT (I.ok.hd hc) hl rv.ints hne fun h' tk m t' hk h1 h2 => ⟨.int _, H, I.kept hk, ⟨_, rfl⟩, q m h1 h2⟩
theorem itemsI_ok {H0 Z H : Hp} {v : V} {d : D} {ns : List Int} (p : Pre g Z H) (r : RepR g H0 Z H v d) (h : itemsI d = some ns) : ∃ a, v = .ref a ∧ (SqL g.K H a (ns.map V.int) ∨ SqT g.K H a (ns.map V.int)) := by
  obtain ⟨ds, e1, e2⟩ := Option.bind_eq_some_iff.mp h
  obtain ⟨a, ws, rfl, k1, k2, k3⟩ := r.seq p e1
  have e3 := k3.intsI e2
  subst e3
  exact ⟨a, rfl, k1⟩
theorem blt_max : BltS g (fun xs H Q => (∃ i j, xs = [.int i, .int j] ∧ Q (.int (if j > i then j else i)) H) ∨ rMax g.K xs H Q ∨ rMaxT g.K xs H Q) maxB := by
  intro H0 Z H xs vs Q E p r h
  unfold maxB at h
  split at h
  · obtain ⟨v, w, rfl, rv, rw'⟩ := r.two
    cases rv; cases rw'
    exact .inl ⟨_, _, rfl, h.now p (.int _)⟩
  · split at h
    · rename_i m e
      obtain ⟨ns, e1, e2⟩ := Option.bind_eq_some_iff.mp e
      obtain ⟨v, rfl, rv⟩ := r.one
      obtain ⟨a, rfl, h1⟩ := itemsI_ok p rv e1
      obtain ⟨k1, k2⟩ := maxL_ok e2
      rcases h1 with h1 | h1
      · exact .inr (.inl ⟨a, ns, rfl, h1, k1, fun k hk hy => by rw [k2 k hk hy]; exact h.now p (.int _)⟩)
      · exact .inr (.inr ⟨a, ns, rfl, h1, k1, fun k hk hy => by rw [k2 k hk hy]; exact h.now p (.int _)⟩)
    · exact h.elim
  · exact h.elim
theorem blt_min : BltS g (fun xs H Q => (∃ i j, xs = [.int i, .int j] ∧ Q (.int (if j < i then j else i)) H) ∨ rMin g.K xs H Q ∨ rMinT g.K xs H Q) minB := by
  intro H0 Z H xs vs Q E p r h
  unfold minB at h
  split at h
  · obtain ⟨v, w, rfl, rv, rw'⟩ := r.two
    cases rv; cases rw'
    exact .inl ⟨_, _, rfl, h.now p (.int _)⟩
  · split at h
    · rename_i m e
      obtain ⟨ns, e1, e2⟩ := Option.bind_eq_some_iff.mp e
      obtain ⟨v, rfl, rv⟩ := r.one
      obtain ⟨a, rfl, h1⟩ := itemsI_ok p rv e1
      obtain ⟨k1, k2⟩ := minL_ok e2
      rcases h1 with h1 | h1
      · exact .inr (.inl ⟨a, ns, rfl, h1, k1, fun k hk hy => by rw [k2 k hk hy]; exact h.now p (.int _)⟩)
      · exact .inr (.inr ⟨a, ns, rfl, h1, k1, fun k hk hy => by rw [k2 k hk hy]; exact h.now p (.int _)⟩)
    · exact h.elim
  · exact h.elim
theorem blt_len : BltS g (fun xs H Q => ∃ p ys, xs = [.ref p] ∧ (SqL g.K H p ys ∨ SqT g.K H p ys) ∧ Q (.int ys.length) H) lenB := by
  intro H0 Z H xs vs Q E p r h
  unfold lenB at h
  split at h
  · split at h
    · rename_i ds e
      obtain ⟨v, rfl, rv⟩ := r.one
      obtain ⟨a, vs, rfl, h1, h2, h3⟩ := rv.seq p e
      exact ⟨a, vs, rfl, h1, by rw [h3.length]; exact h.now p (.int _)⟩
    · exact h.elim
  · exact h.elim
def rSumT (K : PySem.W.Frag) : List V → Hp → VK → Prop := fun vs H Q => ∃ (a : Addr) (ns : List Int), vs = [V.ref a] ∧ SqT K H a (ns.map V.int) ∧ Q (.int ns.sum) H
theorem cr_sumT {X : Cx} (hc : X.calm = true) : CallR X (.builtin "sum") (rSumT X.K) := by
  intro pins s σ H vs us Q I r h
  obtain ⟨a, ns, rfl, hs, q⟩ := h
  obtain ⟨its, rv, hl, _⟩ := I.tuple hs
  rw [Vals.ref1 r]
  exact sum_rawT (I.ok.hd hc) hl rv.ints fun h' tk t' hk => ⟨.int _, H, I.kept hk, ⟨_, rfl⟩, q⟩
theorem blt_sum : BltS g (fun xs H Q => rSum g.K xs H Q ∨ rSumT g.K xs H Q) sumB := by
  intro H0 Z H xs vs Q E p r h
  unfold sumB at h
  split at h
  · split at h
    · rename_i ns e
      obtain ⟨v, rfl, rv⟩ := r.one
      obtain ⟨ds, e1, e2⟩ := Option.bind_eq_some_iff.mp e
      obtain ⟨a, ws, rfl, k1, k2, k3⟩ := rv.seq p e1
      have e3 := k3.intsI e2
      subst e3
      rcases k1 with k1 | k1
      · exact .inl ⟨a, ns, rfl, k1, h.now p (.int _)⟩
      · exact .inr ⟨a, ns, rfl, k1, h.now p (.int _)⟩
    · exact h.elim
  · exact h.elim
theorem blt_all : BltS g (rAll g.K) allB := by
  intro H0 Z H xs vs Q E p r h
  unfold allB at h
  split at h
  · split at h
    · rename_i ns e
      obtain ⟨v, rfl, rv⟩ := r.one
      obtain ⟨a, rfl, h1⟩ := seqB_ok p rv e
      exact ⟨a, ns, rfl, h1, h.now p (.bl _)⟩
    · exact h.elim
  · exact h.elim
theorem blt_any : BltS g (rAny g.K) anyB := by
  intro H0 Z H xs vs Q E p r h
  unfold anyB at h
  split at h
  · split at h
    · rename_i ns e
      obtain ⟨v, rfl, rv⟩ := r.one
      obtain ⟨a, rfl, h1⟩ := seqB_ok p rv e
      exact ⟨a, ns, rfl, h1, h.now p (.bl _)⟩
    · exact h.elim
  · exact h.elim
theorem insI_perm (x : Int) : ∀ ys : List Int, (insI x ys).Perm (x :: ys)
  | [] => .refl _
  | y :: ys => by
    unfold insI
    split
    · exact .refl _
    · exact ((insI_perm x ys).cons y).trans (.swap x y ys)
theorem sortI_perm : ∀ xs : List Int, (sortI xs).Perm xs
  | [] => .refl _
  | x :: xs => (insI_perm x (sortI xs)).trans ((sortI_perm xs).cons x)
theorem insI_sorted (x : Int) : ∀ ys : List Int, ys.Pairwise (· ≤ ·) → (insI x ys).Pairwise (· ≤ ·)
  | [], _ => by simp [insI]
  | y :: ys, h => by
    unfold insI
    rw [List.pairwise_cons] at h
    split
    · rename_i q
      rw [List.pairwise_cons, List.pairwise_cons]
      refine ⟨fun z hz => ?_, h⟩
      rcases List.mem_cons.mp hz with e | e
      · subst e; exact q
      · exact Int.le_trans q (h.1 z e)
    · rename_i q
      rw [List.pairwise_cons]
      refine ⟨fun z hz => ?_, insI_sorted x ys h.2⟩
      rcases List.mem_cons.mp ((insI_perm x ys).mem_iff.mp hz) with e | e
      · subst e; omega
      · exact h.1 z e
theorem sortI_sorted : ∀ xs : List Int, (sortI xs).Pairwise (· ≤ ·)
  | [] => .nil
  | x :: xs => insI_sorted x _ (sortI_sorted xs)
theorem blt_sorted : BltS g (rSorted g.K) sortedB := by
  intro H0 Z H xs vs Q E p r h
  unfold sortedB at h
  split at h
  · split at h
    · rename_i ns e
      split at h
      · rename_i c
        obtain ⟨v, rfl, rv⟩ := r.one
        obtain ⟨a, rfl, h1, _⟩ := seqI_ok p rv e
        refine ⟨a, ns, rfl, h1, c, fun ns' q hp hs hq => ?_⟩
        have e : ns' = sortI ns := PySem.W.ksm_same (hp.trans (sortI_perm ns).symm) hs (sortI_sorted ns)
        subst e
        exact h.newL p (Reps.ofInts _) (by rw [List.length_map, (sortI_perm ns).length_eq]; exact small64 c) hq
      · exact h.elim
    · exact h.elim
  · exact h.elim
theorem blt_list : BltS g (fun xs H Q => ∃ p ys, xs = [.ref p] ∧ (SqL g.K H p ys ∨ SqT g.K H p ys) ∧ ∀ l, H l = none → Q (.ref l) (upd H l (.lst ys))) listB := by
  intro H0 Z H xs vs Q E p r h
  unfold listB at h
  split at h
  · split at h
    · rename_i ds e
      obtain ⟨v, rfl, rv⟩ := r.one
      obtain ⟨a, vs, rfl, h1, h2, h3⟩ := rv.seq p e
      exact ⟨a, vs, rfl, h1, fun l hl => h.newL p h3 h2 hl⟩
    · exact h.elim
  · exact h.elim
theorem blt_tuple : BltS g (fun xs H Q => ∃ p ys, xs = [.ref p] ∧ ((SqL g.K H p ys ∧ ∀ l, H l = none → Q (.ref l) (upd H l (.tup ys))) ∨ (SqT g.K H p ys ∧ Q (.ref p) H))) tupleB := by
  intro H0 Z H xs vs Q E p r h
  unfold tupleB at h
  split at h
  · split at h
    · rename_i ds e
      obtain ⟨v, rfl, rv⟩ := r.one
      rename_i d _
      cases d <;> simp [items] at e
      · subst e
        cases rv with
        | tup b1 b2 b3 => exact ⟨_, _, rfl, .inr ⟨.of (p.zh _ _ b1), h.now p (.tup b1 b2 b3)⟩⟩
      · subst e
        obtain ⟨a, vs, rfl, h1, h2, h3⟩ := rv.lst p rfl
        exact ⟨a, vs, rfl, .inl ⟨.of h1, fun l hl => h.newT p h3 h2 hl⟩⟩
      · subst e
        cases rv with
        | scr b1 b2 => exact ⟨_, _, rfl, .inl ⟨sq_sub p.zh b1, fun l hl => h.newT p (Reps.ofInts _) (by rw [List.length_map, sizeLine_eq]; omega) hl⟩⟩
      · subst e
        obtain ⟨a, vs, rfl, h1, h2, h3⟩ := rv.lst p rfl
        exact ⟨a, vs, rfl, .inl ⟨.of h1, fun l hl => h.newT p h3 h2 hl⟩⟩
      · subst e
        obtain ⟨a, vs, rfl, h1, h2, h3⟩ := rv.lst p rfl
        exact ⟨a, vs, rfl, .inl ⟨.of h1, fun l hl => h.newT p h3 h2 hl⟩⟩
    · exact h.elim
  · exact h.elim
theorem blt_int : BltS g (fun xs H Q => (∃ i, xs = [.int i] ∧ Q (.int i) H) ∨ ∃ k, xs = [.bl k] ∧ Q (.int (if k then 1 else 0)) H) intB := by
  intro H0 Z H xs vs Q E p r h
  unfold intB at h
  split at h
  · obtain ⟨v, rfl, rv⟩ := r.one
    cases rv
    exact .inl ⟨_, rfl, h.now p (.int _)⟩
  · exact h.elim
theorem blt_gcd : BltS g rGcd gcdB := by
  intro H0 Z H xs vs Q E p r h
  unfold gcdB at h
  split at h
  · obtain ⟨v, u, rfl, rv, ru⟩ := r.two
    cases rv
    cases ru
    exact ⟨_, _, rfl, h.now p (.int _)⟩
  · exact h.elim
def rComb : List V → Hp → VK → Prop := fun vs H Q => ∃ a b : Int, vs = [.int a, .int b] ∧ 0 ≤ a ∧ 0 ≤ b ∧ a ≤ 18000 ∧ Q (.int (PySem.W.mcComb a b)) H
theorem cr_comb {X : Cx} : CallR X (.builtin "math.comb") rComb := by
  intro pins s σ H vs us Q I r h
  obtain ⟨a, b, rfl, h1, h2, h3, q⟩ := h
  obtain ⟨t, u, rfl⟩ := Vals.int2 r
  exact PySem.W.mc_comb h1 h2 (Int.lt_of_le_of_lt h3 (by decide +kernel)) (.inr h3) fun _ => ⟨.int _, H, I.tok _, ⟨_, rfl⟩, q⟩
theorem blt_comb : BltS g rComb combB := by
  intro H0 Z H xs vs Q E p r h
  unfold combB at h
  split at h
  · split at h
    · rename_i hc
      obtain ⟨v, u, rfl, rv, ru⟩ := r.two
      cases rv
      cases ru
      exact ⟨_, _, rfl, hc.1, hc.2.1, hc.2.2, h.now p (.int _)⟩
    · exact h.elim
  · exact h.elim
theorem log_lt {n : Nat} (h : n < 2 ^ 200) : n.log2 < 1920 := by
  rcases Nat.eq_zero_or_pos n with rfl | hp
  · decide
  · exact Nat.lt_of_lt_of_le ((Nat.log2_lt (by omega)).mpr h) (by decide)
theorem blt_str : BltS g (fun xs H Q => ∃ i : Int, xs = [.int i] ∧ i.natAbs.log2 < 1920 ∧ Q (.str (toString i)) H) strB := by
  intro H0 Z H xs vs Q E p r h
  unfold strB at h
  split at h
  · split at h
    · rename_i hc
      obtain ⟨v, rfl, rv⟩ := r.one
      cases rv
      exact ⟨_, rfl, log_lt hc, h.now p (.str _)⟩
    · exact h.elim
  · exact h.elim
/-! ### isinstance -/
def KOk (T : String) (k : D → Option Bool) : Prop := (∀ i, k (.int i) = kitB "int" T) ∧ (∀ b, k (.bl b) = kitB "bool" T) ∧ k .non = kitB "NoneType" T ∧ (∀ x, k (.str x) = kitB "str" T) ∧ (∀ xs, k (.tup xs) = kitB "tuple" T) ∧ (∀ xs, k (.lst xs) = kitB "list" T) ∧ k .emp = kitB "dict" T ∧
  (∀ c, k (.exc c) = none) ∧ k .sta = none ∧ (∀ ns, k (.scr ns) = none) ∧ (∀ xs, k (.bor xs) = none) ∧ (∀ xs, k (.new xs) = none)
theorem kok_int : KOk "int" kInt := by
  refine ⟨fun _ => ?_, fun _ => ?_, ?_, fun _ => ?_, fun _ => ?_, fun _ => ?_, ?_, fun _ => rfl, rfl, fun _ => rfl, fun _ => rfl, fun _ => rfl⟩ <;> first | exact Eq.symm (show kitB _ _ = some true by decide +kernel) | exact Eq.symm (show kitB _ _ = some false by decide +kernel)
theorem kok_bool : KOk "bool" kBool := by
  refine ⟨fun _ => ?_, fun _ => ?_, ?_, fun _ => ?_, fun _ => ?_, fun _ => ?_, ?_, fun _ => rfl, rfl, fun _ => rfl, fun _ => rfl, fun _ => rfl⟩ <;> first | exact Eq.symm (show kitB _ _ = some true by decide +kernel) | exact Eq.symm (show kitB _ _ = some false by decide +kernel)
theorem kok_tup : KOk "tuple" kTup := by
  refine ⟨fun _ => ?_, fun _ => ?_, ?_, fun _ => ?_, fun _ => ?_, fun _ => ?_, ?_, fun _ => rfl, rfl, fun _ => rfl, fun _ => rfl, fun _ => rfl⟩ <;> first | exact Eq.symm (show kitB _ _ = some true by decide +kernel) | exact Eq.symm (show kitB _ _ = some false by decide +kernel)
theorem kok_lst : KOk "list" kLst := by
  refine ⟨fun _ => ?_, fun _ => ?_, ?_, fun _ => ?_, fun _ => ?_, fun _ => ?_, ?_, fun _ => rfl, rfl, fun _ => rfl, fun _ => rfl, fun _ => rfl⟩ <;> first | exact Eq.symm (show kitB _ _ = some true by decide +kernel) | exact Eq.symm (show kitB _ _ = some false by decide +kernel)
theorem kok_str : KOk "str" kStr := by
  refine ⟨fun _ => ?_, fun _ => ?_, ?_, fun _ => ?_, fun _ => ?_, fun _ => ?_, ?_, fun _ => rfl, rfl, fun _ => rfl, fun _ => rfl, fun _ => rfl⟩ <;> first | exact Eq.symm (show kitB _ _ = some true by decide +kernel) | exact Eq.symm (show kitB _ _ = some false by decide +kernel)
theorem isKind_ok {T : String} {k : D → Option Bool} (o : KOk T k) {H0 Z H : Hp} {d : D} {v : V} {Q : VK} {E : Nat → Nat → Prop} (p : Pre g Z H) (r : RepR g H0 Z H v d) (h : (isKind k [d]).All (Post g Z H Q) E (g.bud H)) : rIsi g.K [v, .ty T] H Q := by
  obtain ⟨o1, o2, o3, o4, o5, o6, o7, o8, o9, o10, o11, o12⟩ := o
  unfold isKind at h
  simp only at h
  split at h
  · rename_i b e
    have fin : ∀ t : String, TyX g.K H v (.type t) → kitB t T = some b → rIsi g.K [v, .ty T] H Q := fun t ty q => ⟨v, .ty T, _, _, b, rfl, .ty T, ty, kit_ty q, h.now p (.bl b)⟩
    cases d
    · cases r; exact fin _ (.base .non) (o3 ▸ e)
    · cases r; exact fin _ (.base (.bl _)) (o2 _ ▸ e)
    · cases r; exact fin _ (.base (.int _)) (o1 _ ▸ e)
    · cases r; exact fin _ (.base (.str _)) (o4 _ ▸ e)
    · cases r with | tup b1 b2 b3 => exact fin _ (.base (.tup (p.zh _ _ b1))) (o5 _ ▸ e)
    · cases r with | lst b1 b2 b3 => exact fin _ (.base (.lst (p.zh _ _ b1))) (o6 _ ▸ e)
    · cases r with | emp b1 => exact fin _ (.base (.dK (p.zh _ _ b1))) (o7 ▸ e)
    · rw [o8] at e; cases e
    · rw [o9] at e; cases e
    · rw [o10] at e; cases e
    · rw [o11] at e; cases e
    · rw [o12] at e; cases e
  · exact h.elim
end PV
end
section
set_option maxHeartbeats 4000000
/-! PvS3: which term of the small language stands for which expression; readings. -/
namespace PV
open PySem PySem.Spec PyProof.Rows L2
variable {g : GF}

structure Ck where
  N : List Str
  fns : List (Nat × Str × Nat)
  cons : List (Str × Int)
  cls : List (Nat × Str)
  kws : List (Nat × Str × List Str × List Nat) := []
  mws : List (Nat × Str × Nat × List Str × List Nat) := []
  bfs : List (Str × String) := []
  lam : Option Scope := none
  nx : Nat := 0
  exs : List (Nat × Str) := []
  ltab : List (Nat × List X) := []
  dues : List (Str × Nat) := []
def visK : Option NameKind → Bool
  | some .local => true | some .cell => true | some .free => true | _ => false
def visB (ck : Ck) (sc : Scope) (i : Nat) (x : Str) : Bool := decide (ck.N[i]? = some x) && visK (sc.names.lookup x) && !(x == ("__debug__" : Str)) && !(x == ("__classdict__" : Str))
def glB (sc : Scope) (x : Str) : Bool := decide (sc.names.lookup x = some .globalImplicit) && !(x == ("__debug__" : Str)) && decide (x ≠ ("__name__" : Str))
def bopB : BOp → Operator → Bool
  | .add, .Add => true | .sub, .Sub => true | .mul, .Mult => true | .fdiv, .FloorDiv => true | .mod, .Mod => true | .pow, .Pow => true | _, _ => false
def copB : COp → CmpOp → Bool
  | .lt, .Lt => true | .le, .LtE => true | .gt, .Gt => true | .ge, .GtE => true | .eq, .Eq => true | .ne, .NotEq => true | .is, .Is => true | .isn, .IsNot => true | .inn, .In => true | .nin, .NotIn => true | _, _ => false
def bltName : Blt → Str
  | .abs => "abs" | .max => "max" | .min => "min" | .len => "len" | .sum => "sum" | .all => "all" | .any => "any" | .sorted => "sorted" | .list => "list" | .tuple => "tuple" | .int => "int"
  | .isint => "isinstance" | .isbool => "isinstance" | .istup => "isinstance" | .islst => "isinstance" | .isstr => "isinstance" | .gcd => "gcd" | .comb => "comb" | .str => "str"
/-- of a module of built-in functions -/
def bltMod : Blt → Option String
  | .gcd => some "math.gcd" | .comb => some "math.comb" | _ => none
def modB (ck : Ck) (f : Blt) : Bool := match bltMod f with
  | none => true
  | some id => decide ((bltName f, id) ∈ ck.bfs)
def op0P : O0 → Expr → Bool
  | .emp, .Dict [] [] _ => true
  | _, _ => false
def op1P : O1 → Expr → Option Expr
  | .rev, .Subscript e (.Slice none none (some (.UnaryOp .USub (.Constant (.int i) _ _) _)) _) _ => if i = 1 then some e else none
  | _, _ => none
def kindName : Blt → Option Str
  | .isint => some "int" | .isbool => some "bool" | .istup => some "tuple" | .islst => some "list" | .isstr => some "str" | _ => none
def plainE : Expr → Bool
  | .Starred .. => false | _ => true
def kwNames (l : List Keyword) : List Str := l.filterMap (·.arg)
def kwSome (l : List Keyword) : Bool := l.all (·.arg.isSome)
def isYes : X → Bool
  | .yes => true | _ => false
def condB : List Expr → Bool → (Expr → Bool) → Bool
  | [], y, _ => y
  | [c], _, f => f c
  | _, _, _ => false
def tailB (es : List Expr) (p q : Bool) : Bool := match es with
  | [] => p
  | _ => q
def notSetB : Expr → Bool
  | .Set .. => false | _ => true
def plainIxB : Expr → Bool
  | .Slice .. => false | _ => true
/-- a name that is stored; f: cells of the block's own -/
def nmB (ck : Ck) (sc : Scope) (f : Str → Bool) (i : Nat) : Expr → Bool
  | .Name x _ => decide (ck.N[i]? = some x) && (decide (sc.names.lookup x = some .local) || (decide (sc.names.lookup x = some .cell) && f x))
  | _ => false
def nmsB (ck : Ck) (sc : Scope) (f : Str → Bool) : List Nat → List Expr → Bool
  | [], [] => true
  | i :: is, e :: es => nmB ck sc f i e && nmsB ck sc f is es
  | _, _ => false
def tgCell (ck : Ck) (sc : Scope) (f : Str → Bool) : Tg → Expr → Bool
  | .nm i, e => nmB ck sc f i e
  | .tp is, .Tuple es _ _ => nmsB ck sc f is es
  | _, _ => false
def tgIn (own : List (Str × Nat)) : Tg → Bool
  | .nm i => decide (i ∈ own.map (·.2))
  | .tp is => is.all fun i => decide (i ∈ own.map (·.2))
def noParams : Arguments → Bool
  | ⟨[], [], none, [], [], none, []⟩ => true
  | _ => false
/-- the bodies of a row of lambdas, each of which must raise what is due -/
def bods : X → Option (List X)
  | .nil => some []
  | .cons (.must (.isx _ _ (.caught _ b))) as => (bods as).map (b :: ·)
  | _ => none
def duesB (nx : Nat) (ids : List (Str × Nat)) : List Str → X → Bool
  | [], .nil => true
  | s :: ss, .cons (.must (.isx n k (.caught m _))) as => decide (n = nx) && decide (m = nx) && decide (ids.lookup s = some k) && duesB nx ids ss as
  | _, _ => false
section
variable (ck : Ck)
mutual
def chkE : X → Scope → Expr → Bool
  | .non, _, .Constant .none _ _ => true
  | .bl b, _, .Constant (.bool c) _ _ => b == c
  | .int i, _, .Constant (.int j) _ _ => i == j
  | .str x, _, .Constant (.str y) _ _ => decide (x = y)
  | .var i, sc, .Name x _ => visB ck sc i x
  | .con y i, sc, .Name x _ => decide (x = y) && glB sc x && decide ((x, i) ∈ ck.cons)
  | .bin op a b, sc, .BinOp ea o eb _ => bopB op o && chkE a sc ea && chkE b sc eb
  | .neg a, sc, .UnaryOp .USub ea _ => chkE a sc ea
  | .cmp op a b, sc, .Compare ea [o] [eb] _ => copB op o && chkE a sc ea && chkE b sc eb && !(behindInMarks o eb)
  | .chain3 op oq ou a b c d, sc, .Compare ea [o, q, u] [eb, ec, ed] _ => copB op o && copB oq q && copB ou u && chkE a sc ea && chkE b sc eb && chkE c sc ec && chkE d sc ed && !(lastMarks [o, q, u] [eb, ec, ed])
  | .chain op oq a b c, sc, .Compare ea [o, q] [eb, ec] _ => copB op o && copB oq q && chkE a sc ea && chkE b sc eb && chkE c sc ec && !(lastMarks [o, q] [eb, ec])
  | .and a b, sc, .BoolOp .And (ea :: eb :: es) pos => chkE a sc ea && tailB es (chkE b sc eb) (chkE b sc (.BoolOp .And (eb :: es) pos))
  | .or a b, sc, .BoolOp .Or (ea :: eb :: es) pos => chkE a sc ea && tailB es (chkE b sc eb) (chkE b sc (.BoolOp .Or (eb :: es) pos))
  | .not a, sc, .UnaryOp .Not ea _ => chkE a sc ea
  | .ite t a b, sc, .IfExp et ea eb _ => chkT t sc et && chkE a sc ea && chkE b sc eb
  | .tup as, sc, .Tuple es _ _ => chkA as sc es
  | .lst as, sc, .List es _ => chkA as sc es
  | .idx a i, sc, .Subscript ea ei _ => chkE a sc ea && chkE i sc ei && plainIxB ei
  | .slc a lo hi, sc, .Subscript ea (.Slice l h none _) _ => chkE a sc ea && chkO lo sc l && chkO hi sc h
  | .call f as, sc, .Call (.Name x _) (e :: es) [] _ => glB sc x && decide ((f, x, (e :: es).length) ∈ ck.fns) && chkA as sc (e :: es) && (e :: es).all plainE
  | .callK f perm as, sc, .Call (.Name x _) [] (kw :: kws) _ => glB sc x && decide ((f, x, kwNames (kw :: kws), perm) ∈ ck.kws) && kwSome (kw :: kws) && chkA as sc ((kw :: kws).map (·.value))
  | .blt f as, sc, .Call (.Name x _) (e :: es) [] _ => glB sc x && decide (x = bltName f) && decide (kindName f = none) && chkR as sc (e :: es) && (e :: es).all plainE && modB ck f
  | .op0 o, _, e => op0P o e
  | .op1 o a, sc, e => (match op1P o e with | some ea => chkE a sc ea | none => false)
  | .callM f m perm as bs, sc, .Call (.Name x _) (e :: es) (kw :: kws) _ => glB sc x && decide (m = es.length + 1) && decide ((f, x, m, kwNames (kw :: kws), perm) ∈ ck.mws) && kwSome (kw :: kws) && chkA as sc (e :: es) && (e :: es).all plainE && chkA bs sc ((kw :: kws).map (·.value))
  | .isk f a, sc, .Call (.Name x _) [e, .Name y _] [] _ => glB sc x && decide (x = bltName f) && glB sc y && decide (kindName f = some y) && chkE a sc e && plainE e
  | .caught nx b, sc, .Call (.Name x _) [.Lambda params body scope _] [] _ => decide (x = ("_law_caught" : Str)) && glB sc x && decide (ck.lam = some sc) && decide (ck.nx = nx) && noParams params && LamX.lamSB sc scope && decide (ck.lam ≠ some scope) && chkE b scope body
  | .lrng a b, sc, .Call (.Name x _) [.Call (.Name y _) [ea, eb] [] _] [] _ => decide (x = ("list" : Str)) && decide (y = ("range" : Str)) && glB sc x && glB sc y && chkE a sc ea && chkE b sc eb && plainE ea && plainE eb
  | .errs i tag ss ks st, sc, .Call (.Name x _) [.Name y _, e] [] _ => decide (x = ("_law_pt_first_errors" : Str)) && glB sc x && decide (ck.lam = some sc) && visB ck sc i y && decide (ck.ltab.lookup tag = bods ks) && duesB ck.nx ck.dues ss ks && chkE st sc e && plainE e
  | .isx nx k a, sc, .Call (.Name x _) [e, .Name y _] [] _ => glB sc x && decide (x = ("isinstance" : Str)) && glB sc y && decide ((k, y) ∈ ck.exs) && decide (ck.nx = nx) && chkE a sc e && plainE e
  | .comp tg it cond elt own, sc, .ListComp el [⟨tge, ite, ifs, 0⟩] scope _ => blkC ck.N sc scope own && decide (ck.lam ≠ some (relS scope sc)) && tgCell ck (relS scope sc) (fun x => scope.names.lookup x == some .cell) tg tge && tgIn own tg && notSetB ite && chkI it sc tge ite && condB ifs (isYes cond) (chkT cond (relS scope sc)) && chkE elt (relS scope sc) el
  | _, _, _ => false
termination_by structural t => t
def chkT : X → Scope → Expr → Bool
  | .and a b, sc, .BoolOp .And (ea :: eb :: es) pos => chkT a sc ea && tailB es (chkT b sc eb) (chkW b sc (.BoolOp .And (eb :: es) pos))
  | .or a b, sc, .BoolOp .Or (ea :: eb :: es) pos => chkT a sc ea && tailB es (chkT b sc eb) (chkW b sc (.BoolOp .Or (eb :: es) pos))
  | .not a, sc, .UnaryOp .Not ea _ => chkT a sc ea
  | .cmp op a b, sc, .Compare ea [o] [eb] _ => copB op o && chkE a sc ea && chkE b sc eb && !(behindInMarks o eb)
  | .chain3 op oq ou a b c d, sc, .Compare ea [o, q, u] [eb, ec, ed] _ => copB op o && copB oq q && copB ou u && chkE a sc ea && chkE b sc eb && chkE c sc ec && chkE d sc ed && !(lastMarks [o, q, u] [eb, ec, ed])
  | .chain op oq a b c, sc, .Compare ea [o, q] [eb, ec] _ => copB op o && copB oq q && chkE a sc ea && chkE b sc eb && chkE c sc ec && !(lastMarks [o, q] [eb, ec])
  | .var i, sc, .Name x _ => visB ck sc i x
  | .call f as, sc, .Call (.Name x _) (e :: es) [] _ => glB sc x && decide ((f, x, (e :: es).length) ∈ ck.fns) && chkA as sc (e :: es) && (e :: es).all plainE
  | .callK f perm as, sc, .Call (.Name x _) [] (kw :: kws) _ => glB sc x && decide ((f, x, kwNames (kw :: kws), perm) ∈ ck.kws) && kwSome (kw :: kws) && chkA as sc ((kw :: kws).map (·.value))
  | .blt f as, sc, .Call (.Name x _) (e :: es) [] _ => glB sc x && decide (x = bltName f) && decide (kindName f = none) && chkR as sc (e :: es) && (e :: es).all plainE && modB ck f
  | .op1 o a, sc, e => (match op1P o e with | some ea => chkE a sc ea | none => false)
  | .callM f m perm as bs, sc, .Call (.Name x _) (e :: es) (kw :: kws) _ => glB sc x && decide (m = es.length + 1) && decide ((f, x, m, kwNames (kw :: kws), perm) ∈ ck.mws) && kwSome (kw :: kws) && chkA as sc (e :: es) && (e :: es).all plainE && chkA bs sc ((kw :: kws).map (·.value))
  | .isk f a, sc, .Call (.Name x _) [e, .Name y _] [] _ => glB sc x && decide (x = bltName f) && glB sc y && decide (kindName f = some y) && chkE a sc e && plainE e
  | .errs i tag ss ks st, sc, .Call (.Name x _) [.Name y _, e] [] _ => decide (x = ("_law_pt_first_errors" : Str)) && glB sc x && decide (ck.lam = some sc) && visB ck sc i y && decide (ck.ltab.lookup tag = bods ks) && duesB ck.nx ck.dues ss ks && chkE st sc e && plainE e
  | .isx nx k a, sc, .Call (.Name x _) [e, .Name y _] [] _ => glB sc x && decide (x = ("isinstance" : Str)) && glB sc y && decide ((k, y) ∈ ck.exs) && decide (ck.nx = nx) && chkE a sc e && plainE e
  | _, _, _ => false
termination_by structural t => t
def chkW : X → Scope → Expr → Bool
  | .and a b, sc, .BoolOp .And (ea :: eb :: es) pos => chkT a sc ea && tailB es (chkT b sc eb) (chkW b sc (.BoolOp .And (eb :: es) pos))
  | .or a b, sc, .BoolOp .Or (ea :: eb :: es) pos => chkT a sc ea && tailB es (chkT b sc eb) (chkW b sc (.BoolOp .Or (eb :: es) pos))
  | _, _, _ => false
termination_by structural t => t
def chkA : X → Scope → List Expr → Bool
  | .nil, _, [] => true
  | .cons a as, sc, e :: es => chkE a sc e && plainE e && chkA as sc es
  | _, _, _ => false
termination_by structural t => t
def chkR : X → Scope → List Expr → Bool
  | .nil, _, [] => true
  | .cons a as, sc, e :: es => chkE a sc e && plainE e && chkR as sc es
  | _, _, _ => false
termination_by structural t => t
def chkO : X → Scope → Option Expr → Bool
  | .nopart, _, none => true
  | .part a, sc, some e => chkE a sc e
  | _, _, _ => false
termination_by structural t => t
def chkI : X → Scope → Expr → Expr → Bool
  | .cap a, sc, tg, e => chkI a sc tg e
  | .rng1 a, sc, _, .Call (.Name x _) [e] [] _ => glB sc x && decide (x = ("range" : Str)) && chkE a sc e && plainE e
  | .rng2 a b, sc, _, .Call (.Name x _) [e, f] [] _ => glB sc x && decide (x = ("range" : Str)) && chkE a sc e && chkE b sc f && plainE e && plainE f
  | .zip a b, sc, .Tuple _ _ _, .Call (.Name x _) [e, f] [] _ => glB sc x && decide (x = ("zip" : Str)) && chkE a sc e && chkE b sc f && plainE e && plainE f
  | .enum a, sc, .Tuple _ _ _, .Call (.Name x _) [e] [] _ => glB sc x && decide (x = ("enumerate" : Str)) && chkE a sc e && plainE e
  | .var i, sc, _, .Name x _ => visB ck sc i x
  | .tup as, sc, _, .Tuple es _ _ => chkA as sc es
  | .lst as, sc, _, .List es _ => chkA as sc es
  | .idx a i, sc, _, .Subscript ea ei _ => chkE a sc ea && chkE i sc ei && plainIxB ei
  | .slc a lo hi, sc, _, .Subscript ea (.Slice l h none _) _ => chkE a sc ea && chkO lo sc l && chkO hi sc h
  | .call f as, sc, _, .Call (.Name x _) (e :: es) [] _ => glB sc x && decide ((f, x, (e :: es).length) ∈ ck.fns) && chkA as sc (e :: es) && (e :: es).all plainE
  | .callK f perm as, sc, _, .Call (.Name x _) [] (kw :: kws) _ => glB sc x && decide ((f, x, kwNames (kw :: kws), perm) ∈ ck.kws) && kwSome (kw :: kws) && chkA as sc ((kw :: kws).map (·.value))
  | .blt f as, sc, _, .Call (.Name x _) (e :: es) [] _ => glB sc x && decide (x = bltName f) && decide (kindName f = none) && chkR as sc (e :: es) && (e :: es).all plainE && modB ck f
  | .op1 o a, sc, _, e => (match op1P o e with | some ea => chkE a sc ea | none => false)
  | .callM f m perm as bs, sc, _, .Call (.Name x _) (e :: es) (kw :: kws) _ => glB sc x && decide (m = es.length + 1) && decide ((f, x, m, kwNames (kw :: kws), perm) ∈ ck.mws) && kwSome (kw :: kws) && chkA as sc (e :: es) && (e :: es).all plainE && chkA bs sc ((kw :: kws).map (·.value))
  | _, _, _, _ => false
termination_by structural t => t
end
end

/-- the lambdas' bodies within a row -/
def inner : X → List X
  | .caught _ b => [b]
  | .isx _ _ a => inner a
  | .must a => inner a
  | .cons a as => inner a ++ inner as
  | _ => []
theorem X.recIn {P : X → Prop} (non : P (.non ))
    (bl : ∀ (b : Bool), P (.bl b))
    (int : ∀ (i : Int), P (.int i))
    (str : ∀ (x : Str), P (.str x))
    (var : ∀ (i : Nat), P (.var i))
    (con : ∀ (x : Str) (i : Int), P (.con x i))
    (bin : ∀ (op : BOp) (a b : X), P a → P b → P (.bin op a b))
    (neg : ∀ (a : X), P a → P (.neg a))
    (cmp : ∀ (op : COp) (a b : X), P a → P b → P (.cmp op a b))
    (chain : ∀ (o p : COp) (a b c : X), P a → P b → P c → P (.chain o p a b c))
    (chain3 : ∀ (o p q : COp) (a b c d : X), P a → P b → P c → P d → P (.chain3 o p q a b c d))
    (lrng : ∀ (a b : X), P a → P b → P (.lrng a b))
    (and : ∀ (a b : X), P a → P b → P (.and a b))
    (or : ∀ (a b : X), P a → P b → P (.or a b))
    (not : ∀ (a : X), P a → P (.not a))
    (ite : ∀ (t a b : X), P t → P a → P b → P (.ite t a b))
    (tup : ∀ (as : X), P as → P (.tup as))
    (lst : ∀ (as : X), P as → P (.lst as))
    (nil : P (.nil ))
    (cons : ∀ (a as : X), P a → P as → P (.cons a as))
    (idx : ∀ (a i : X), P a → P i → P (.idx a i))
    (slc : ∀ (a lo hi : X), P a → P lo → P hi → P (.slc a lo hi))
    (part : ∀ (a : X), P a → P (.part a))
    (nopart : P (.nopart ))
    (call : ∀ (f : Nat) (as : X), P as → P (.call f as))
    (callK : ∀ (f : Nat) (perm : List Nat) (as : X), P as → P (.callK f perm as))
    (blt : ∀ (f : Blt) (as : X), P as → P (.blt f as))
    (isk : ∀ (f : Blt) (a : X), P a → P (.isk f a))
    (comp : ∀ (tg : Tg) (it cond elt : X) (own : List (Str × Nat)), P it → P cond → P elt → P (.comp tg it cond elt own))
    (yes : P (.yes ))
    (op0 : ∀ (o : O0), P (.op0 o))
    (op1 : ∀ (o : O1) (a : X), P a → P (.op1 o a))
    (callM : ∀ (f m : Nat) (perm : List Nat) (as bs : X), P as → P bs → P (.callM f m perm as bs))
    (caught : ∀ (nx : Nat) (a : X), P a → P (.caught nx a))
    (isx : ∀ (nx k : Nat) (a : X), P a → P (.isx nx k a))
    (must : ∀ (a : X), P a → P (.must a))
    (errs : ∀ (i tag : Nat) (ss : List Str) (ks st : X), P ks → P st → (∀ b ∈ inner ks, P b) → P (.errs i tag ss ks st))
    (cap : ∀ (a : X), P a → P (.cap a))
    (rng1 : ∀ (a : X), P a → P (.rng1 a))
    (rng2 : ∀ (a b : X), P a → P b → P (.rng2 a b))
    (zip : ∀ (a b : X), P a → P b → P (.zip a b))
    (enum : ∀ (a : X), P a → P (.enum a)) (x : X) : P x := by
  have h : P x ∧ ∀ b ∈ inner x, P b := by
    induction x with
    | non  => exact ⟨non, fun b hb => nomatch hb⟩
    | bl b => exact ⟨bl b, fun b hb => nomatch hb⟩
    | int i => exact ⟨int i, fun b hb => nomatch hb⟩
    | str x => exact ⟨str x, fun b hb => nomatch hb⟩
    | var i => exact ⟨var i, fun b hb => nomatch hb⟩
    | con x i => exact ⟨con x i, fun b hb => nomatch hb⟩
    | bin op a b ih_a ih_b => exact ⟨bin op a b ih_a.1 ih_b.1, fun b hb => nomatch hb⟩
    | neg a ih_a => exact ⟨neg a ih_a.1, fun b hb => nomatch hb⟩
    | cmp op a b ih_a ih_b => exact ⟨cmp op a b ih_a.1 ih_b.1, fun b hb => nomatch hb⟩
    | chain o p a b c ih_a ih_b ih_c => exact ⟨chain o p a b c ih_a.1 ih_b.1 ih_c.1, fun b hb => nomatch hb⟩
    | chain3 o p q a b c d ih_a ih_b ih_c ih_d => exact ⟨chain3 o p q a b c d ih_a.1 ih_b.1 ih_c.1 ih_d.1, fun b hb => nomatch hb⟩
    | lrng a b ih_a ih_b => exact ⟨lrng a b ih_a.1 ih_b.1, fun b hb => nomatch hb⟩
    | and a b ih_a ih_b => exact ⟨and a b ih_a.1 ih_b.1, fun b hb => nomatch hb⟩
    | or a b ih_a ih_b => exact ⟨or a b ih_a.1 ih_b.1, fun b hb => nomatch hb⟩
    | not a ih_a => exact ⟨not a ih_a.1, fun b hb => nomatch hb⟩
    | ite t a b ih_t ih_a ih_b => exact ⟨ite t a b ih_t.1 ih_a.1 ih_b.1, fun b hb => nomatch hb⟩
    | tup as ih_as => exact ⟨tup as ih_as.1, fun b hb => nomatch hb⟩
    | lst as ih_as => exact ⟨lst as ih_as.1, fun b hb => nomatch hb⟩
    | nil  => exact ⟨nil, fun b hb => nomatch hb⟩
    | cons a as ih_a ih_as => exact ⟨cons a as ih_a.1 ih_as.1, fun b hb => (List.mem_append.mp hb).elim (ih_a.2 b) (ih_as.2 b)⟩
    | idx a i ih_a ih_i => exact ⟨idx a i ih_a.1 ih_i.1, fun b hb => nomatch hb⟩
    | slc a lo hi ih_a ih_lo ih_hi => exact ⟨slc a lo hi ih_a.1 ih_lo.1 ih_hi.1, fun b hb => nomatch hb⟩
    | part a ih_a => exact ⟨part a ih_a.1, fun b hb => nomatch hb⟩
    | nopart  => exact ⟨nopart, fun b hb => nomatch hb⟩
    | call f as ih_as => exact ⟨call f as ih_as.1, fun b hb => nomatch hb⟩
    | callK f perm as ih_as => exact ⟨callK f perm as ih_as.1, fun b hb => nomatch hb⟩
    | blt f as ih_as => exact ⟨blt f as ih_as.1, fun b hb => nomatch hb⟩
    | isk f a ih_a => exact ⟨isk f a ih_a.1, fun b hb => nomatch hb⟩
    | comp tg it cond elt own ih_it ih_cond ih_elt => exact ⟨comp tg it cond elt own ih_it.1 ih_cond.1 ih_elt.1, fun b hb => nomatch hb⟩
    | yes  => exact ⟨yes, fun b hb => nomatch hb⟩
    | op0 o => exact ⟨op0 o, fun b hb => nomatch hb⟩
    | op1 o a ih_a => exact ⟨op1 o a ih_a.1, fun b hb => nomatch hb⟩
    | callM f m perm as bs ih_as ih_bs => exact ⟨callM f m perm as bs ih_as.1 ih_bs.1, fun b hb => nomatch hb⟩
    | caught nx a ih_a => exact ⟨caught nx a ih_a.1, fun b hb => by cases List.mem_singleton.mp hb; exact ih_a.1⟩
    | isx nx k a ih_a => exact ⟨isx nx k a ih_a.1, ih_a.2⟩
    | must a ih_a => exact ⟨must a ih_a.1, ih_a.2⟩
    | errs i tag ss ks st ih_ks ih_st => exact ⟨errs i tag ss ks st ih_ks.1 ih_st.1 ih_ks.2, fun b hb => nomatch hb⟩
    | cap a ih_a => exact ⟨cap a ih_a.1, fun b hb => nomatch hb⟩
    | rng1 a ih_a => exact ⟨rng1 a ih_a.1, fun b hb => nomatch hb⟩
    | rng2 a b ih_a ih_b => exact ⟨rng2 a b ih_a.1 ih_b.1, fun b hb => nomatch hb⟩
    | zip a b ih_a ih_b => exact ⟨zip a b ih_a.1 ih_b.1, fun b hb => nomatch hb⟩
    | enum a ih_a => exact ⟨enum a ih_a.1, fun b hb => nomatch hb⟩
  exact h.1
def lamOkB (ck : Ck) (sc : Scope) (k : X) (params : Arguments) (body : Expr) (scope : Scope) : Bool := noParams params && LamX.lamSB sc scope && decide (ck.lam ≠ some scope) && chkE ck k scope body
/-- a lambda of this frame -/
def Fn1 (g : GF) (H : Hp) (v : V) (k : X) : Prop := ∃ (f c' : Addr) (params : Arguments) (body : Expr) (scope : Scope), v = .ref f ∧ g.lk k params body scope ∧
  H f = some (FnO (g.q ++ "<lambda>") params body scope (cloFrom g.cl scope.names []) c' f) ∧ H c' = some (LamX.CodeO c' (g.q ++ "<lambda>"))
inductive FnsOk (g : GF) (H : Hp) : List V → List X → Prop
  | nil : FnsOk g H [] []
  | cons {v : V} {vs : List V} {k : X} {ks : List X} : Fn1 g H v k → FnsOk g H vs ks → FnsOk g H (v :: vs) (k :: ks)
/-- the frame's values -/
def SlotOk (g : GF) (Z H : Hp) : Sl → Option V → Prop
  | .un, _ => True
  | .val d, o => ∃ v, o = some v ∧ Rep g Z v d
  | .own xs, o => ∃ a vs, o = some (.ref a) ∧ H a = some (.lst vs) ∧ vs.length ≤ sizeLine ∧ ¬ g.F a ∧ Z a = none ∧ Reps g Z vs xs
  | .fns tag, o => ∃ a vs ks, o = some (.ref a) ∧ Z a = some (.lst vs) ∧ vs.length ≤ sizeLine ∧ g.lt tag = some ks ∧ FnsOk g H vs ks
structure Cfg (g : GF) (r : Env) (Z : Hp) (σ : L2.St) (H : Hp) : Prop where
  pre : Pre g Z H
  len : r.length = σ.length
  slot : ∀ (i : Nat) (s : Sl), r[i]? = some s → ∃ o, σ[i]? = some o ∧ SlotOk g Z H s o
theorem none_step {Z1 H1 Z2 H2 : Hp} (s : Step g Z1 H1 Z2 H2) {a : Addr} {o : HO} (h : H1 a = some o) (hz : Z1 a = none) : Z2 a = none := by
  rcases none_or (H := Z2) (a := a) with e | ⟨u, e⟩
  · exact e
  · rcases s.new a u e with q | q
    · rw [hz] at q; cases q
    · rw [h] at q; cases q
theorem Fn1.ext {g : GF} {H H' : Hp} (h : ∀ a φ, H a = some (.ext φ) → H' a = some (.ext φ)) {v : V} {k : X} (f : Fn1 g H v k) : Fn1 g H' v k := by
  obtain ⟨f, c', params, body, scope, e, l, h1, h2⟩ := f
  exact ⟨f, c', params, body, scope, e, l, h _ _ h1, h _ _ h2⟩
theorem FnsOk.ext {g : GF} {H H' : Hp} (h : ∀ a φ, H a = some (.ext φ) → H' a = some (.ext φ)) : ∀ {vs : List V} {ks : List X}, FnsOk g H vs ks → FnsOk g H' vs ks
  | _, _, .nil => .nil
  | _, _, .cons f t => .cons (f.ext h) (t.ext h)
theorem Step.exts {Z H Z' H' : Hp} (p : Pre g Z H) (s : Step g Z H Z' H') : ∀ a φ, H a = some (.ext φ) → H' a = some (.ext φ) := fun a φ e => s.h a _ e (g.gfx H a φ p.good e)
theorem SlotOk.step {Z H Z' H' : Hp} (p : Pre g Z H) (s : Step g Z H Z' H') {sl : Sl} {o : Option V} (h : SlotOk g Z H sl o) : SlotOk g Z' H' sl o := by
  cases sl with
  | un => trivial
  | val d => obtain ⟨v, e, r⟩ := h; exact ⟨v, e, r.mono s.z⟩
  | own xs =>
    obtain ⟨a, vs, e, h1, h2, h3, h4, h5⟩ := h
    exact ⟨a, vs, e, s.h _ _ h1 h3, h2, h3, none_step s h1 h4, h5.mono s.z⟩
  | fns tag =>
    obtain ⟨a, vs, ks, e, h1, h2, h3, h4⟩ := h
    exact ⟨a, vs, ks, e, s.z _ _ h1, h2, h3, h4.ext (s.exts p)⟩
theorem Cfg.step {r : Env} {Z H Z' H' : Hp} {σ : L2.St} (c : Cfg g r Z σ H) (s : Step g Z H Z' H') : Cfg g r Z' σ H' := ⟨s.pre, c.len, fun i sl e => by
  obtain ⟨o, h1, h2⟩ := c.slot i sl e
  exact ⟨o, h1, h2.step c.pre s⟩⟩

/-- readings that keep to what is reckoned -/
def SimE (g : GF) (W : Nat → Hp → Prop) (t : TE) (e : Env → T D) : Prop := ∀ (r : Env) (Z : Hp) (σ : L2.St) (H : Hp) (Q : VK), Cfg g r Z σ H → (e r).All (Post g Z H Q) (PostE g Z H W) (g.bud H) → t σ H Q
def PostB (g : G) (Z H : Hp) (Q : Bool → Hp → Prop) (m : Nat) (k : Bool) : Prop := ∀ Z' H', Step g Z H Z' H' → g.bud H' = m → Q k H'
def SimB (g : GF) (W : Nat → Hp → Prop) (t : TT) (e : Env → T Bool) : Prop := ∀ (r : Env) (Z : Hp) (σ : L2.St) (H : Hp) (Q : Bool → Hp → Prop), Cfg g r Z σ H → (e r).All (PostB g Z H Q) (PostE g Z H W) (g.bud H) → t σ H Q
def PostA (g : G) (Z H : Hp) (Q : List V → Hp → Prop) (m : Nat) (ds : List D) : Prop := ∀ vs Z' H', Step g Z H Z' H' → g.bud H' = m → Reps g Z' vs ds → Q vs H'
def SimA (g : GF) (W : Nat → Hp → Prop) (t : TA) (e : Env → T (List D)) : Prop := ∀ (r : Env) (Z : Hp) (σ : L2.St) (H : Hp) (Q : List V → Hp → Prop), Cfg g r Z σ H → (e r).All (PostA g Z H Q) (PostE g Z H W) (g.bud H) → t σ H Q
/-- new lists among them stand apart -/
def NewD : List V → List D → Prop
  | v :: vs, d :: ds => (∀ xs, d = .new xs → ∀ (k : Nat) (ys : List D), ds[k]? = some (.new ys) → vs[k]? ≠ some v) ∧ NewD vs ds
  | _, _ => True
def PostR (g : G) (Z H : Hp) (Q : List V → Hp → Prop) (m : Nat) (ds : List D) : Prop := ∀ vs Z' H', Step g Z H Z' H' → g.bud H' = m → RepRs g H Z' H' vs ds → NewD vs ds → Q vs H'
def SimR (g : GF) (W : Nat → Hp → Prop) (t : TA) (e : Env → T (List D)) : Prop := ∀ (r : Env) (Z : Hp) (σ : L2.St) (H : Hp) (Q : List V → Hp → Prop), Cfg g r Z σ H → (e r).All (PostR g Z H Q) (PostE g Z H W) (g.bud H) → t σ H Q
def PostO (g : G) (Z H : Hp) (Q : Option Int → Hp → Prop) (m : Nat) (o : Option Int) : Prop := ∀ Z' H', Step g Z H Z' H' → g.bud H' = m → Q o H'
def SimO (g : GF) (W : Nat → Hp → Prop) (t : TO) (e : Env → T (Option Int)) : Prop := ∀ (r : Env) (Z : Hp) (σ : L2.St) (H : Hp) (Q : Option Int → Hp → Prop), Cfg g r Z σ H → (e r).All (PostO g Z H Q) (PostE g Z H W) (g.bud H) → t σ H Q
/-- an iterator that gives out the items -/
def WalkD (g : G) (J : It) (Z : Hp) (ds : List D) : Prop := ∃ Gd Y, Walk J ds.length Gd Y ∧ (∀ H, Sub Z H → Gd H) ∧
  ∀ i Z1 H x H', i < ds.length → Sub Z Z1 → Pre g Z1 H → Y i H x H' → ∃ Z' d, ds[i]? = some d ∧ Step g Z1 H Z' H' ∧ g.bud H' = g.bud H ∧ Rep g Z' x d
def PostI (g : G) (Z H : Hp) (R : It → Hp → Prop) (m : Nat) (ds : List D) : Prop := ∀ J Z' H', Step g Z H Z' H' → g.bud H' = m → WalkD g J Z' ds → ds.length ≤ sizeLine → R J H'
def SimI (g : GF) (W : Nat → Hp → Prop) (t : TI) (e : Env → T (List D)) : Prop := ∀ (r : Env) (Z : Hp) (σ : L2.St) (H : Hp) (R : It → Hp → Prop), Cfg g r Z σ H → (e r).All (PostI g Z H R) (PostE g Z H W) (g.bud H) → t σ H R

section
variable {W : Nat → Hp → Prop} {ta tb tc te : TE} {tt tu : TT} {e f e1 e2 : Env → T D} {b c : Env → T Bool}
/-- the part that comes first -/
theorem SimE.first (h : SimE g W ta e) {α : Type} {k : D → T α} {P : Nat → α → Prop} {r : Env} {Z H : Hp} {σ : L2.St} {Q : VK} (c : Cfg g r Z σ H) (a : (e r >>= k).All P (PostE g Z H W) (g.bud H))
    (q : ∀ d v Z' H', Step g Z H Z' H' → RepR g H Z' H' v d → (k d).All P (PostE g Z' H' W) (g.bud H') → Q v H') : ta σ H Q := by
  rw [all_bind] at a
  exact h r Z σ H Q c (All.mono a (fun d h1 v Z' H' s e rr => by subst e; exact q d v Z' H' s rr (All.mono h1 (fun _ x => x) fun _ x => x.shift s)) fun _ x => x)
theorem SimE.first0 (h : SimE g W ta e) {α : Type} {k : D → T α} {P : Nat → α → Prop} {r : Env} {Z H : Hp} {σ : L2.St} {Q : VK} (c : Cfg g r Z σ H) (a : (e r >>= k).All P (PostE g Z H W) (g.bud H))
    (q : ∀ d v Z' H', Step g Z H Z' H' → RepR g H Z' H' v d → (k d).All P (PostE g Z H W) (g.bud H') → Q v H') : ta σ H Q := by
  rw [all_bind] at a
  exact h r Z σ H Q c (All.mono a (fun d h1 v Z' H' s e rr => by subst e; exact q d v Z' H' s rr h1) fun _ x => x)
theorem allE_shift {α : Type} {P : Nat → α → Prop} {t : T α} {Z H Z1 H1 : Hp} {m : Nat} (s : Step g Z H Z1 H1) (h : t.All P (PostE g Z H W) m) : t.All P (PostE g Z1 H1 W) m := All.mono h (fun _ x => x) fun _ x => x.shift s
/-- from the first moment, its own list frozen -/
theorem Cfg.step2 {r : Env} {Z Z' H' : Hp} {σ : L2.St} {H : Hp} (c : Cfg g r Z σ H) (s : Step g Z H Z' H') : Cfg g r Z' σ H' := c.step s
theorem SimB.first (h : SimB g W tt b) {α : Type} {k : Bool → T α} {P : Nat → α → Prop} {r : Env} {Z H : Hp} {σ : L2.St} {Q : Bool → Hp → Prop} (c : Cfg g r Z σ H) (a : (b r >>= k).All P (PostE g Z H W) (g.bud H))
    (q : ∀ d Z' H', Step g Z H Z' H' → (k d).All P (PostE g Z' H' W) (g.bud H') → Q d H') : tt σ H Q := by
  rw [all_bind] at a
  exact h r Z σ H Q c (All.mono a (fun d h1 Z' H' s e => by subst e; exact q d Z' H' s (All.mono h1 (fun _ x => x) fun _ x => x.shift s)) fun _ x => x)
theorem SimA.first {ta : TA} {e : Env → T (List D)} (h : SimA g W ta e) {α : Type} {k : List D → T α} {P : Nat → α → Prop} {r : Env} {Z H : Hp} {σ : L2.St} {Q : List V → Hp → Prop} (c : Cfg g r Z σ H) (a : (e r >>= k).All P (PostE g Z H W) (g.bud H))
    (q : ∀ d v Z' H', Step g Z H Z' H' → Reps g Z' v d → (k d).All P (PostE g Z' H' W) (g.bud H') → Q v H') : ta σ H Q := by
  rw [all_bind] at a
  exact h r Z σ H Q c (All.mono a (fun d h1 v Z' H' s e rr => by subst e; exact q d v Z' H' s rr (All.mono h1 (fun _ x => x) fun _ x => x.shift s)) fun _ x => x)
theorem SimR.first {ta : TA} {e : Env → T (List D)} (h : SimR g W ta e) {α : Type} {k : List D → T α} {P : Nat → α → Prop} {r : Env} {Z H : Hp} {σ : L2.St} {Q : List V → Hp → Prop} (c : Cfg g r Z σ H) (a : (e r >>= k).All P (PostE g Z H W) (g.bud H))
    (q : ∀ d v Z' H', Step g Z H Z' H' → RepRs g H Z' H' v d → NewD v d → (k d).All P (PostE g Z' H' W) (g.bud H') → Q v H') : ta σ H Q := by
  rw [all_bind] at a
  exact h r Z σ H Q c (All.mono a (fun d h1 v Z' H' s e rr nd => by subst e; exact q d v Z' H' s rr nd (All.mono h1 (fun _ x => x) fun _ x => x.shift s)) fun _ x => x)
theorem RepRs.get {H Z' H' : Hp} : ∀ {vs : List V} {ds : List D} {k : Nat} {d : D}, RepRs g H Z' H' vs ds → ds[k]? = some d → ∃ v, vs[k]? = some v ∧ RepR g H Z' H' v d
  | _, _, _, _, .nil, e => by simp at e
  | _, _, 0, _, .cons r _, e => by simp at e; subst e; exact ⟨_, rfl, r⟩
  | _, _, k + 1, d, .cons _ t, e => by
    obtain ⟨v, h1, h2⟩ := RepRs.get (k := k) (d := d) t (by simpa using e)
    exact ⟨v, by simpa using h1, h2⟩
theorem SimO.first {ta : TO} {e : Env → T (Option Int)} (h : SimO g W ta e) {α : Type} {k : Option Int → T α} {P : Nat → α → Prop} {r : Env} {Z H : Hp} {σ : L2.St} {Q : Option Int → Hp → Prop} (c : Cfg g r Z σ H) (a : (e r >>= k).All P (PostE g Z H W) (g.bud H))
    (q : ∀ d Z' H', Step g Z H Z' H' → (k d).All P (PostE g Z' H' W) (g.bud H') → Q d H') : ta σ H Q := by
  rw [all_bind] at a
  exact h r Z σ H Q c (All.mono a (fun d h1 Z' H' s e => by subst e; exact q d Z' H' s (All.mono h1 (fun _ x => x) fun _ x => x.shift s)) fun _ x => x)
theorem post_shift {Z H Z1 H1 : Hp} {Q : VK} {t : T D} {E : Nat → Nat → Prop} {m : Nat} (s : Step g Z H Z1 H1) (h : t.All (Post g Z H Q) E m) : t.All (Post g Z1 H1 Q) E m := All.mono h (fun _ x => x.shift s) fun _ x => x

theorem sim_c {v : V} {d : D} (h : ∀ Z, Rep g Z v d) : SimE g W (tC v) fun _ => .ret d := fun r Z σ H Q c a => a.now c.pre (h Z)
theorem sim_var {i : Nat} : SimE g W (tVar i) fun r => getV r i := by
  intro r Z σ H Q c a
  unfold getV at a
  cases e : r[i]? with
  | none => simp only [e] at a; exact a.elim
  | some sl =>
    obtain ⟨o, e1, h⟩ := c.slot i sl e
    simp only [e] at a
    cases sl with
    | un => exact a.elim
    | val d =>
      obtain ⟨v, rfl, rv⟩ := h
      exact ⟨v, e1, Post.now c.pre a rv⟩
    | own xs =>
      obtain ⟨p, vs, rfl, h1, h2, h3, h4, h5⟩ := h
      exact ⟨_, e1, a _ Z H (.refl c.pre) rfl ⟨p, vs, rfl, h1, h2, h3, h4, h5⟩⟩
    | fns tag => exact a.elim
theorem sim_op {rr : R2} {f : D → D → T D} (h : OpS g rr f) (ha : SimE g W ta e1) (hb : SimE g W tb e2) : SimE g W (tOp rr ta tb) fun r => e1 r >>= fun x => e2 r >>= fun y => f x y := by
  intro r Z σ H Q c a
  refine ha.first c a fun x vx Z1 H1 s1 r1 a1 => ?_
  refine hb.first (c.step s1) a1 fun y vy Z2 H2 s2 r2 a2 => ?_
  exact h _ _ Z2 H2 x y vx vy Q _ s2.pre (r1.step s2) r2 (post_shift (s1.trans s2) a2)
theorem sim_cmp {rr : R2} {f : D → D → T Bool} (h : CmpS g rr f) (ha : SimE g W ta e1) (hb : SimE g W tb e2) : SimE g W (tOp rr ta tb) fun r => e1 r >>= fun x => e2 r >>= fun y => f x y >>= fun k => .ret (.bl k) := by
  intro r Z σ H Q c a
  refine ha.first c a fun x vx Z1 H1 s1 r1 a1 => ?_
  refine hb.first (c.step s1) a1 fun y vy Z2 H2 s2 r2 a2 => ?_
  rw [all_bind] at a2
  exact h _ _ Z2 H2 x y vx vy Q _ s2.pre (r1.step s2) r2 (All.mono a2 (fun k q e => by subst e; exact Post.now s2.pre (Post.shift (s1.trans s2) q) (.bl k)) fun _ x => x)
theorem sim_test (h : SimE g W ta e1) : SimB g W (tTest ta) fun r => e1 r >>= toB := by
  intro r Z σ H Q c a
  refine h.first c a fun x vx Z1 H1 s1 r1 a1 => ?_
  cases x <;> first
    | exact a1.elim
    | (cases r1; exact ⟨_, rfl, a1 Z1 H1 s1 rfl⟩)
theorem sim_neg (h : SimE g W ta e1) : SimE g W (tUn (rU fun i => .int (-i)) ta) fun r => e1 r >>= negT := by
  intro r Z σ H Q c a
  refine h.first c a fun x vx Z1 H1 s1 r1 a1 => ?_
  cases x <;> first
    | exact a1.elim
    | (cases r1; exact ⟨_, rfl, Post.now s1.pre (Post.shift s1 a1) (.int _)⟩)
theorem sim_chain {ro rp : R2} {fo fp : D → D → T Bool} (h : CmpS g ro fo) (h' : CmpS g rp fp) {e3 : Env → T D} (ha : SimE g W ta e1) (hb : SimE g W tb e2) (hc : SimE g W tc e3) :
    SimE g W (tChain ro rp ta tb tc) fun r => e1 r >>= fun x => e2 r >>= fun y => fo x y >>= fun k => if k = true then e3 r >>= fun z => fp y z >>= fun k => .ret (.bl k) else .ret (.bl false) := by
  intro r Z σ H Q c a
  refine ha.first c a fun x vx Z1 H1 s1 r1 a1 => ?_
  refine hb.first (c.step s1) a1 fun y vy Z2 H2 s2 r2 a2 => ?_
  rw [all_bind] at a2
  refine h _ _ Z2 H2 x y vx vy _ _ s2.pre (r1.step s2) r2 (All.mono a2 (fun k q e => ?_) fun _ x => x)
  subst e
  refine ⟨k, rfl, ?_⟩
  cases k with
  | false =>
    rw [if_neg Bool.false_ne_true] at q ⊢
    exact Post.now s2.pre (Post.shift (s1.trans s2) q) (.bl _)
  | true =>
    rw [if_pos rfl] at q ⊢
    refine hc.first ((c.step s1).step s2) q fun z vz Z3 H3 s3 r3 a3 => ?_
    rw [all_bind] at a3
    exact h' _ _ Z3 H3 y z vy vz Q _ s3.pre (r2.step s3) r3 (All.mono a3 (fun k q e => by subst e; exact Post.now s3.pre (Post.shift ((s1.trans s2).trans s3) q) (.bl k)) fun _ x => x)
/-- a o b p c q d -/
def tChain3 (r r2 r3 : R2) (ta tb tc td : TE) : TE := fun σ H Q => ta σ H fun x H1 => tb σ H1 fun y H2 => r x y H2 fun z H3 => ∃ k, z = .bl k ∧
  (if k = true then tc σ H3 fun w H4 => r2 y w H4 fun z2 H5 => ∃ k2, z2 = .bl k2 ∧ (if k2 = true then td σ H5 fun u H6 => r3 w u H6 Q else Q (.bl false) H5) else Q (.bl false) H3)
theorem sim_chain3 {ro rp rq : R2} {fo fp fq : D → D → T Bool} (h : CmpS g ro fo) (h' : CmpS g rp fp) (h'' : CmpS g rq fq) {e3 e4 : Env → T D} {td : TE} (ha : SimE g W ta e1) (hb : SimE g W tb e2) (hc : SimE g W tc e3) (hd : SimE g W td e4) :
    SimE g W (tChain3 ro rp rq ta tb tc td) fun r => e1 r >>= fun x => e2 r >>= fun y => fo x y >>= fun k => if k = true then e3 r >>= fun z => fp y z >>= fun k => if k = true then e4 r >>= fun u => fq z u >>= fun k => .ret (.bl k) else .ret (.bl false) else .ret (.bl false) := by
  intro r Z σ H Q c a
  refine ha.first c a fun x vx Z1 H1 s1 r1 a1 => ?_
  refine hb.first (c.step s1) a1 fun y vy Z2 H2 s2 r2 a2 => ?_
  rw [all_bind] at a2
  refine h _ _ Z2 H2 x y vx vy _ _ s2.pre (r1.step s2) r2 (All.mono a2 (fun k q e => ?_) fun _ x => x)
  subst e
  refine ⟨k, rfl, ?_⟩
  cases k with
  | false =>
    rw [if_neg Bool.false_ne_true] at q ⊢
    exact Post.now s2.pre (Post.shift (s1.trans s2) q) (.bl _)
  | true =>
    rw [if_pos rfl] at q ⊢
    refine hc.first ((c.step s1).step s2) q fun z vz Z3 H3 s3 r3 a3 => ?_
    rw [all_bind] at a3
    refine h' _ _ Z3 H3 y z vy vz _ _ s3.pre (r2.step s3) r3 (All.mono a3 (fun k q e => ?_) fun _ x => x)
    subst e
    refine ⟨k, rfl, ?_⟩
    cases k with
    | false =>
      rw [if_neg Bool.false_ne_true] at q ⊢
      exact Post.now s3.pre (Post.shift ((s1.trans s2).trans s3) q) (.bl _)
    | true =>
      rw [if_pos rfl] at q ⊢
      refine hd.first (((c.step s1).step s2).step s3) q fun u vu Z4 H4 s4 r4 a4 => ?_
      rw [all_bind] at a4
      exact h'' _ _ Z4 H4 z u vz vu Q _ s4.pre (r3.step s4) r4 (All.mono a4 (fun k q e => by subst e; exact Post.now s4.pre (Post.shift (((s1.trans s2).trans s3).trans s4) q) (.bl k)) fun _ x => x)
theorem sim_andV (ha : SimE g W ta e1) (hb : SimE g W tb e2) : SimE g W (tAndV ta tb) fun r => e1 r >>= fun x => andT x (e2 r) := by
  intro r Z σ H Q c a
  refine ha.first c a fun x vx Z1 H1 s1 r1 a1 => ?_
  cases x with
  | bl k =>
    cases r1
    refine ⟨k, rfl, ?_⟩
    cases k with
    | false =>
      rw [if_neg Bool.false_ne_true]
      exact Post.now s1.pre (Post.shift s1 a1) (.bl _)
    | true =>
      rw [if_pos rfl]
      exact hb r Z1 σ H1 Q (c.step s1) (post_shift s1 a1)
  | _ => exact a1.elim
theorem sim_orV (ha : SimE g W ta e1) (hb : SimE g W tb e2) : SimE g W (tOrV ta tb) fun r => e1 r >>= fun x => orT x (e2 r) := by
  intro r Z σ H Q c a
  refine ha.first c a fun x vx Z1 H1 s1 r1 a1 => ?_
  cases x with
  | bl k =>
    cases r1
    refine ⟨k, rfl, ?_⟩
    cases k with
    | true =>
      rw [if_pos rfl]
      exact Post.now s1.pre (Post.shift s1 a1) (.bl _)
    | false =>
      rw [if_neg Bool.false_ne_true]
      exact hb r Z1 σ H1 Q (c.step s1) (post_shift s1 a1)
  | _ => exact a1.elim
theorem sim_notV (ha : SimE g W ta e1) : SimE g W (tNotV ta) fun r => e1 r >>= notT := by
  intro r Z σ H Q c a
  refine ha.first c a fun x vx Z1 H1 s1 r1 a1 => ?_
  cases x with
  | bl k =>
    cases r1
    exact ⟨k, rfl, Post.now s1.pre (Post.shift s1 a1) (.bl _)⟩
  | _ => exact a1.elim
theorem sim_if (ht : SimB g W tt b) (ha : SimE g W ta e1) (hb : SimE g W tb e2) : SimE g W (tIf tt ta tb) fun r => b r >>= fun k => if k = true then e1 r else e2 r := by
  intro r Z σ H Q c a
  refine ht.first c a fun k Z1 H1 s1 a1 => ?_
  cases k with
  | true =>
    rw [if_pos rfl] at a1 ⊢
    exact ha r Z1 σ H1 Q (c.step s1) (post_shift s1 a1)
  | false =>
    rw [if_neg Bool.false_ne_true] at a1 ⊢
    exact hb r Z1 σ H1 Q (c.step s1) (post_shift s1 a1)
theorem postB_shift {Z H Z1 H1 : Hp} {Q : Bool → Hp → Prop} {t : T Bool} {E : Nat → Nat → Prop} {m : Nat} (s : Step g Z H Z1 H1) (h : t.All (PostB g Z H Q) E m) : t.All (PostB g Z1 H1 Q) E m := All.mono h (fun _ x Z' H' t e => x Z' H' (s.trans t) e) fun _ x => x
theorem sim_andT (ha : SimB g W tt b) (hb : SimB g W tu c) : SimB g W (tAnd tt tu) fun r => b r >>= fun k => if k = true then c r else .ret false := by
  intro r Z σ H Q cf a
  refine ha.first cf a fun k Z1 H1 s1 a1 => ?_
  cases k with
  | true =>
    rw [if_pos rfl] at a1 ⊢
    exact hb r Z1 σ H1 Q (cf.step s1) (postB_shift s1 a1)
  | false =>
    rw [if_neg Bool.false_ne_true] at a1 ⊢
    exact a1 Z1 H1 s1 rfl
theorem sim_orT (ha : SimB g W tt b) (hb : SimB g W tu c) : SimB g W (tOr tt tu) fun r => b r >>= fun k => if k = true then .ret true else c r := by
  intro r Z σ H Q cf a
  refine ha.first cf a fun k Z1 H1 s1 a1 => ?_
  cases k with
  | true =>
    rw [if_pos rfl] at a1 ⊢
    exact a1 Z1 H1 s1 rfl
  | false =>
    rw [if_neg Bool.false_ne_true] at a1 ⊢
    exact hb r Z1 σ H1 Q (cf.step s1) (postB_shift s1 a1)
theorem sim_notT (ha : SimB g W tt b) : SimB g W (tNot tt) fun r => b r >>= fun k => .ret (!k) := by
  intro r Z σ H Q cf a
  exact ha.first cf a fun k Z1 H1 s1 a1 => a1 Z1 H1 s1 rfl
theorem sim_nilA : SimA g W tNil fun _ => .ret [] := fun r Z σ H Q c a => a [] Z H (.refl c.pre) rfl .nil
theorem sim_consA {tr : TA} {e2 : Env → T (List D)} (ha : SimE g W ta e1) (hb : SimA g W tr e2) : SimA g W (tCons ta tr) fun r => e1 r >>= fun x => fz x >>= fun x => e2 r >>= fun xs => .ret (x :: xs) := by
  intro r Z σ H Q c a
  refine ha.first0 c a fun x vx Z1 H1 s1 r1 a1 => ?_
  rw [all_bind] at a1
  obtain ⟨x', Z2, a2, s2, _, r2⟩ := fz_ok s1 r1 a1
  refine hb.first (c.step s2) (allE_shift s2 a2) fun xs vs Z3 H3 s3 r3 a3 => ?_
  exact a3 (vx :: vs) Z3 H3 (s2.trans s3) rfl (.cons (r2.mono s3.z) r3)
theorem sim_nilR : SimR g W tNil fun _ => .ret [] := fun r Z σ H Q c a => a [] Z H (.refl c.pre) rfl .nil trivial
theorem sim_consR {tr : TA} {e2 : Env → T (List D)} (ha : SimE g W ta e1) (hb : SimR g W tr e2) : SimR g W (tCons ta tr) fun r => e1 r >>= fun x => e2 r >>= fun xs => .ret (x :: xs) := by
  intro r Z σ H Q c a
  refine ha.first c a fun x vx Z1 H1 s1 r1 a1 => ?_
  refine hb.first (c.step s1) a1 fun xs vs Z3 H3 s3 r3 nd a3 => ?_
  refine a3 (vx :: vs) Z3 H3 (s1.trans s3) rfl (.cons (r1.step s3) (r3.back s1)) ⟨fun us e k ys hk hv => ?_, nd⟩
  subst e
  obtain ⟨p, ws, rfl, h1, _⟩ := r1
  obtain ⟨v, q1, q2⟩ := r3.get hk
  rw [hv] at q1; cases q1
  obtain ⟨p2, ws2, e2, _, _, _, _, h5, _⟩ := q2
  cases e2
  rw [h1] at h5; cases h5
theorem sim_tup {ta : TA} {e1 : Env → T (List D)} (ha : SimA g W ta e1) : SimE g W (tTup ta) fun r => e1 r >>= fun ds => lenT ds (.tup ds) := by
  intro r Z σ H Q c a
  refine ha.first c a fun x vx Z1 H1 s1 r1 a1 => ?_
  unfold lenT at a1
  split at a1
  · rename_i l
    have hl : vx.length ≤ sizeLine := by rw [r1.length, sizeLine_eq]; omega
    exact ⟨hl, fun p hp => Post.newT s1.pre (Post.shift s1 a1) r1 hl hp⟩
  · exact a1.elim
theorem sim_lst {ta : TA} {e1 : Env → T (List D)} (ha : SimA g W ta e1) : SimE g W (tLst ta) fun r => e1 r >>= fun ds => lenT ds (.new ds) := by
  intro r Z σ H Q c a
  refine ha.first c a fun x vx Z1 H1 s1 r1 a1 => ?_
  unfold lenT at a1
  split at a1
  · rename_i l
    have hl : vx.length ≤ sizeLine := by rw [r1.length, sizeLine_eq]; omega
    exact ⟨hl, fun p hp => Post.newL s1.pre (Post.shift s1 a1) r1 hl hp⟩
  · exact a1.elim
theorem sim_noPart : SimO g W tNoPart fun _ => .ret none := fun r Z σ H Q c a => a Z H (.refl c.pre) rfl
theorem sim_part (ha : SimE g W ta e1) : SimO g W (tPart ta) fun r => e1 r >>= partT := by
  intro r Z σ H Q c a
  refine ha.first c a fun x vx Z1 H1 s1 r1 a1 => ?_
  cases x <;> first
    | exact a1.elim
    | (cases r1; exact ⟨_, rfl, a1 Z1 H1 s1 rfl⟩)
theorem sim_slc {tl th : TO} {lo hi : Env → T (Option Int)} (ha : SimE g W ta e1) (hl : SimO g W tl lo) (hh : SimO g W th hi) :
    SimE g W (tSl (fun x lo hi H Q => rSlL g.K x lo hi H Q ∨ rSlA g.K x lo hi H Q) ta tl th) fun r => e1 r >>= fun x => lo r >>= fun l => hi r >>= fun h => slcT x l h := by
  intro r Z σ H Q c a
  refine ha.first c a fun x vx Z1 H1 s1 r1 a1 => ?_
  refine hl.first (c.step s1) a1 fun l Z2 H2 s2 a2 => ?_
  refine hh.first ((c.step s1).step s2) a2 fun h Z3 H3 s3 a3 => ?_
  exact slc_ok s3.pre ((r1.step s2).step s3) (post_shift ((s1.trans s2).trans s3) a3)
theorem sim_blt {rr : List V → Hp → VK → Prop} {f : List D → T D} {ta : TA} {e1 : Env → T (List D)} (h : BltS g rr f) (ha : SimR g W ta e1) : SimE g W (tCB rr ta) fun r => e1 r >>= fun ds => f ds := by
  intro r Z σ H Q c a
  refine ha.first c a fun x vx Z1 H1 s1 r1 _ a1 => ?_
  exact h _ Z1 H1 x vx Q _ s1.pre r1 (post_shift s1 a1)
theorem sim_isk {tn : String} {k : D → Option Bool} (o : KOk tn k) (ha : SimE g W ta e1) : SimE g W (tCB (rIsi g.K) (tCons ta (tCons (tC (.ty tn)) tNil))) fun r => e1 r >>= fun x => isKind k [x] := by
  intro r Z σ H Q c a
  refine ha.first c a fun x vx Z1 H1 s1 r1 a1 => ?_
  exact isKind_ok o s1.pre r1 (post_shift s1 a1)
/-- what a def promises -/
def spD (g : G) (call : Nat → List D → T D) (k : Nat) : Sp := fun vs H Q E => ∃ Z ds, Pre g Z H ∧ Reps g Z vs ds ∧ (call k ds).All (Post g Z H Q) (fun m c => ∀ Z' H', Step g Z H Z' H' → g.bud H' = m → E (.ref (g.cad c)) none H') (g.bud H)
def eW (g : G) (W : Nat → Hp → Prop) : XK := fun cls d H => ∃ c, cls = .ref (g.cad c) ∧ d = none ∧ W c H
theorem sim_call {call : Nat → List D → T D} {k : Nat} {ta : TA} {e1 : Env → T (List D)} (ha : SimA g W ta e1) : SimE g W (tCall (spD g call k) [] (eW g W) ta) fun r => e1 r >>= fun ds => call k ds := by
  intro r Z σ H Q c a
  refine ha.first c a fun x vx Z1 H1 s1 r1 a1 => ?_
  refine ⟨Z1, x, s1.pre, by rw [List.append_nil]; exact r1, All.mono a1 (fun d q => q.shift s1) fun c q Z' H' t e => ⟨c, rfl, rfl, q Z' H' t e⟩⟩

def tCallP (sp : Sp) (perm : List Nat) (E : XK) (t : TA) : TE := fun σ H Q => t σ H fun zs H2 => ∃ ys, permD perm zs = some ys ∧ sp ys H2 Q E
theorem permL_reps {Z : Hp} {vs : List V} {ds : List D} (r : Reps g Z vs ds) : ∀ {perm : List Nat} {es : List D}, permL perm ds = some es → ∃ us, permL perm vs = some us ∧ Reps g Z us es
  | [], es, h => by cases h; exact ⟨[], rfl, .nil⟩
  | i :: is, es, h => by
    unfold permL at h
    split at h
    · rename_i x ys h1 h2
      cases h
      obtain ⟨us, k1, k2⟩ := permL_reps r (perm := is) h2
      obtain ⟨v, k3, k4⟩ := r.get h1
      refine ⟨v :: us, ?_, .cons k4 k2⟩
      unfold permL
      rw [k3, k1]
    · cases h
theorem sim_callP {call : Nat → List D → T D} {k : Nat} {perm : List Nat} {ta : TA} {e1 : Env → T (List D)} (ha : SimA g W ta e1) : SimE g W (tCallP (spD g call k) perm (eW g W) ta) fun r => e1 r >>= fun ds => ofO (permD perm ds) >>= fun ds => call k ds := by
  intro r Z σ H Q c a
  refine ha.first c a fun x vx Z1 H1 s1 r1 a1 => ?_
  cases h : permD perm x with
  | none => rw [h] at a1; exact a1.elim
  | some es =>
    rw [h] at a1
    unfold permD at h
    split at h
    · rename_i hl
      obtain ⟨us, k1, k2⟩ := permL_reps r1 h
      refine ⟨us, (by unfold permD; rw [r1.length, if_pos hl]; exact k1), Z1, es, s1.pre, k2, All.mono a1 (fun d q => q.shift s1) fun c q Z' H' t e => ⟨c, rfl, rfl, q Z' H' t e⟩⟩
    · cases h
theorem sim_callM {call : Nat → List D → T D} {k m : Nat} {perm : List Nat} {ta tb : TA} {e1 e2 : Env → T (List D)} (ha : SimA g W ta e1) (hb : SimA g W tb e2) :
    SimE g W (fun σ H Q => ta σ H fun xs H1 => tb σ H1 fun zs H2 => ∃ ys, permM m perm xs zs = some ys ∧ spD g call k ys H2 Q (eW g W)) fun r => e1 r >>= fun ds => e2 r >>= fun es => ofO (permM m perm ds es) >>= fun ds => call k ds := by
  intro r Z σ H Q c a
  refine ha.first c a fun x vx Z1 H1 s1 r1 a1 => ?_
  refine hb.first (c.step s1) a1 fun y vy Z2 H2 s2 r2 a2 => ?_
  have r12 := (r1.mono s2.z).append r2
  cases h : permM m perm x y with
  | none => rw [h] at a2; exact a2.elim
  | some es =>
    rw [h] at a2
    unfold permM permD at h
    split at h
    rename_i hm
    split at h
    · rename_i hl
      obtain ⟨us, k1, k2⟩ := permL_reps r12 h
      have s12 := s1.trans s2
      refine ⟨us, (by unfold permM permD; rw [r1.length, if_pos hm, r12.length, if_pos hl]; exact k1), Z2, es, s2.pre, k2, All.mono a2 (fun d q => (q.shift s12)) fun c q Z' H' t e => ⟨c, rfl, rfl, ?_⟩⟩
      exact q Z' H' t e
    · cases h
    · cases h
theorem sim_op0 {o : O0} : SimE g W tDNewK fun _ => op0T o := by
  cases o
  intro r Z σ H Q c a p hp
  exact a _ (upd Z p (.dK [])) _ (.newZ c.pre hp) (bud_upd c.pre (c.pre.nF hp)) (.of (.emp upd_same))
theorem rev_reps {Z : Hp} {vs : List V} {ds : List D} (h : Reps g Z vs ds) : Reps g Z vs.reverse ds.reverse := by
  induction vs generalizing ds with
  | nil => cases h; exact .nil
  | cons v vs ih =>
    cases h with
    | cons r t =>
      rw [List.reverse_cons, List.reverse_cons]
      exact (ih t).append (.cons r .nil)
theorem sim_rev (ha : SimE g W ta e1) : SimE g W (tRevA g.K ta) fun r => e1 r >>= op1T .rev := by
  intro r Z σ H Q c a
  refine ha.first c a fun x vx Z1 H1 s1 r1 a1 => ?_
  have a1 : (op1T .rev x).All (Post g Z H Q) (PostE g Z1 H1 W) (g.bud H1) := a1
  cases x <;> first
    | exact a1.elim
    | skip
  · cases r1 with
    | tup h1 h2 h3 => exact ⟨_, _, rfl, .inr ⟨.of (s1.pre.zh _ _ h1), fun p hp => Post.newT s1.pre (Post.shift s1 a1) (rev_reps h3) (by rw [List.length_reverse]; exact h2) hp⟩⟩
  · cases r1 with
    | lst h1 h2 h3 => exact ⟨_, _, rfl, .inl ⟨.of (s1.pre.zh _ _ h1), fun p hp => Post.newL s1.pre (Post.shift s1 a1) (rev_reps h3) (by rw [List.length_reverse]; exact h2) hp⟩⟩
  · obtain ⟨p, vs, rfl, h1, h2, h3, h4, h5⟩ := r1
    exact ⟨_, _, rfl, .inl ⟨.of h1, fun p hp => Post.newL s1.pre (Post.shift s1 a1) (rev_reps h5) (by rw [List.length_reverse]; exact h2) hp⟩⟩
  · obtain ⟨p, vs, rfl, h1, h2, h3, h4, h5, h6⟩ := r1
    exact ⟨_, _, rfl, .inl ⟨.of h1, fun p hp => Post.newL s1.pre (Post.shift s1 a1) (rev_reps h6) (by rw [List.length_reverse]; exact h2) hp⟩⟩
/-! ### what is walked -/
theorem walkD_seq {Z : Hp} {a : Addr} {vs : List V} {ds : List D} (r : Reps g Z vs ds) : ((∀ H, Sub Z H → SqL g.K H a vs) → WalkD g (Itl g.K a) Z ds) ∧ ((∀ H, Sub Z H → SqT g.K H a vs) → WalkD g (Itt g.K a) Z ds) := by
  have key : ∀ (i : Nat) (Z1 H : Hp) (x : V) (H' : Hp), i < ds.length → Sub Z Z1 → Pre g Z1 H → YAt vs i H x H' → ∃ Z' d, ds[i]? = some d ∧ Step g Z1 H Z' H' ∧ g.bud H' = g.bud H ∧ Rep g Z' x d := fun i Z1 H x H' hi sz p y => by
    obtain ⟨e, y⟩ := y
    subst e
    obtain ⟨v, h1, h2⟩ := r.get (List.getElem?_eq_getElem hi)
    rw [h1] at y; cases y
    exact ⟨Z1, _, List.getElem?_eq_getElem hi, .refl p, rfl, h2.mono sz⟩
  refine ⟨fun h => ⟨_, _, by rw [← r.length]; exact walk_list, h, key⟩, fun h => ⟨_, _, by rw [← r.length]; exact walk_tup, h, key⟩⟩
theorem frozen_ok {Z H Z1 H1 : Hp} {v : V} {d : D} {ds : List D} (s : Step g Z H Z1 H1) (r : RepR g H Z1 H1 v d) (h : frozen d = some ds) :
    ∃ a vs Z2, v = .ref a ∧ Step g Z H Z2 H1 ∧ Reps g Z2 vs ds ∧ vs.length ≤ sizeLine ∧ (((∀ H, Sub Z2 H → SqL g.K H a vs) ∧ SqL g.K H1 a vs) ∨ ((∀ H, Sub Z2 H → SqT g.K H a vs) ∧ SqT g.K H1 a vs)) := by
  cases d <;> simp [frozen] at h
  · subst h
    cases r with
    | tup h1 h2 h3 => exact ⟨_, _, Z1, rfl, s, h3, h2, .inr ⟨fun H e => .of (e _ _ h1), .of (s.zh _ _ h1)⟩⟩
  · subst h
    cases r with
    | lst h1 h2 h3 => exact ⟨_, _, Z1, rfl, s, h3, h2, .inl ⟨fun H e => .of (e _ _ h1), .of (s.zh _ _ h1)⟩⟩
  · subst h
    cases r with
    | scr h1 h2 => exact ⟨_, _, Z1, rfl, s, Reps.ofInts _, by rw [List.length_map, sizeLine_eq]; omega, .inl ⟨fun H e => sq_sub e h1, sq_sub s.zh h1⟩⟩
  · subst h
    obtain ⟨a, vs, rfl, h1, h2, h3, h4, h5, h6⟩ := r
    exact ⟨a, vs, upd Z1 a (.lst vs), rfl, s.freeze h5 h1 h4 h3, h6.mono (sub_new h4), h2, .inl ⟨fun H e => .of (e _ _ upd_same), .of h1⟩⟩
/-- a list or a tuple, walked -/
def iSeq (K : PySem.W.Frag) (tl : TE) : TI := fun σ H R => tl σ H fun x H1 => ∃ a, x = .ref a ∧ (((∃ xs, SqL K H1 a xs) ∧ R (Itl K a) H1) ∨ ((∃ xs, SqT K H1 a xs) ∧ R (Itt K a) H1))
theorem pi_seq {C : Cx} {tg l : Expr} {tl : TE} (hl : PE C l tl) : PI C tg l (iSeq C.K tl) := by
  refine ⟨fun pins s σ H R I h => ?_⟩
  refine thn (hl.run pins s σ H _ I h) fun v s1 ⟨x, H1, I1, r1, q1⟩ => ?_
  obtain ⟨a, e, q⟩ := q1
  subst e
  cases r1
  rcases q with ⟨⟨xs, hq⟩, q⟩ | ⟨⟨xs, hq⟩, q⟩
  · obtain ⟨its, rv, p, hz⟩ := I1.list hq
    refine wpAny_pyIter_list p.isList ?_
    refine ⟨s1.heap.objs.size, [s1.heap.objs.size], _, _, H1, rfl, I1.kept (t' := s1.toks) fun b o e => Heap.get?_push_of_some _ e, turn_list a _, ⟨_, Heap.get?_push_size _ rfl, rfl, rfl⟩, fun b hb => ?_, q⟩
    have e : b = s1.heap.objs.size := by simpa using hb
    subst e
    exact I1.fpOk (Nat.le_refl _) (I1.hok.fresh (Nat.le_refl _))
  · obtain ⟨its, rv, p, hz⟩ := I1.tuple hq
    refine wpAny_pyIter_tuple (show s1.heap.IsTuple a its.toArray from p) ?_
    refine ⟨s1.heap.objs.size, [s1.heap.objs.size], _, _, H1, rfl, I1.kept (t' := s1.toks) fun b o e => Heap.get?_push_of_some _ e, turn_tuple a _, ⟨_, Heap.get?_push_size _ rfl, rfl, rfl⟩, fun b hb => ?_, q⟩
    have e : b = s1.heap.objs.size := by simpa using hb
    subst e
    exact I1.fpOk (Nat.le_refl _) (I1.hok.fresh (Nat.le_refl _))
theorem ofO_ok {α : Type} {o : Option α} {P : Nat → α → Prop} {E : Nat → Nat → Prop} {m : Nat} (h : (ofO o).All P E m) : ∃ x, o = some x ∧ P m x := by
  cases o with
  | none => exact h.elim
  | some x => exact ⟨x, rfl, h⟩
theorem simI_seq (ha : SimE g W ta e1) : SimI g W (iSeq g.K ta) fun r => e1 r >>= fun v => ofO (frozen v) := by
  intro r Z σ H R c a
  refine ha.first0 c a fun x vx Z1 H1 s1 r1 a1 => ?_
  obtain ⟨ds, e, a2⟩ := ofO_ok a1
  obtain ⟨p, vs, Z2, rfl, s2, h1, h2, h3⟩ := frozen_ok s1 r1 e
  have hl : ds.length ≤ sizeLine := by rw [← h1.length]; exact h2
  refine ⟨p, rfl, ?_⟩
  rcases h3 with ⟨h3, h4⟩ | ⟨h3, h4⟩
  · exact .inl ⟨⟨vs, h4⟩, a2 _ Z2 H1 s2 rfl ((walkD_seq h1).1 h3) hl⟩
  · exact .inr ⟨⟨vs, h4⟩, a2 _ Z2 H1 s2 rfl ((walkD_seq h1).2 h3) hl⟩
theorem rngI_ok {lo hi : Int} {P : Nat → List D → Prop} {E : Nat → Nat → Prop} {m : Nat} (h : (rngI lo hi).All P E m) : (-(2 ^ 62) ≤ lo ∧ lo < 2 ^ 62 ∧ -(2 ^ 62) ≤ hi ∧ hi < 2 ^ 62) ∧ (hi - lo).toNat ≤ sizeLine ∧ P m ((List.range (hi - lo).toNat).map fun k => .int (lo + (k : Nat))) := by
  unfold rngI at h
  split at h
  · rename_i q
    have q := of_decide_eq_true q
    exact ⟨⟨q.1, q.2.1, q.2.2.1, q.2.2.2.1⟩, by rw [← limLine]; exact q.2.2.2.2, h⟩
  · exact h.elim
theorem walkD_rng {Z : Hp} {lo : Int} {n : Nat} : WalkD g (Itr lo n) Z ((List.range n).map fun k => .int (lo + (k : Nat))) := by
  refine ⟨_, _, by rw [List.length_map, List.length_range]; exact walk_range, fun _ _ => trivial, fun i Z1 H x H' hi _ p y => ?_⟩
  obtain ⟨e, y⟩ := y
  subst e y
  rw [List.length_map, List.length_range] at hi
  refine ⟨Z1, _, ?_, .refl p, rfl, .int _⟩
  rw [List.getElem?_map, List.getElem?_range hi]
  rfl
theorem simI_cap {ti : TI} {e : Env → T (List D)} (h : SimI g W ti e) : SimI g W ti fun r => e r >>= fun ds => if ds.length ≤ lim then .ret ds else .bad := by
  intro r Z σ H R c a
  rw [all_bind] at a
  refine h r Z σ H R c (All.mono a (fun ds q => ?_) fun _ x => x)
  split at q
  · exact q
  · exact q.elim
theorem simI_rng1 (ha : SimE g W ta e1) : SimI g W (iRng1 (tCons ta tNil)) fun r => e1 r >>= rng1T := by
  intro r Z σ H R c a
  refine ha.first0 c a fun x vx Z1 H1 s1 r1 a1 => ?_
  cases x <;> first
    | exact a1.elim
    | skip
  cases r1
  rename_i j
  obtain ⟨b1, b2, a2⟩ := rngI_ok a1
  refine ⟨j, rfl, b1.2.2.1, b1.2.2.2, ?_⟩
  have e : (j - 0).toNat = j.toNat := by rw [Int.sub_zero]
  rw [e] at a2 b2
  exact a2 _ Z1 H1 s1 rfl walkD_rng (by rw [List.length_map, List.length_range]; exact b2)
theorem simI_rng2 (ha : SimE g W ta e1) (hb : SimE g W tb e2) : SimI g W (iRng2 (tCons ta (tCons tb tNil))) fun r => e1 r >>= fun x => e2 r >>= fun y => rng2T x y := by
  intro r Z σ H R c a
  refine ha.first c a fun x vx Z1 H1 s1 r1 a1 => ?_
  refine hb.first (c.step s1) a1 fun y vy Z2 H2 s2 r2 a2 => ?_
  cases x <;> first
    | exact a2.elim
    | skip
  cases y <;> first
    | exact a2.elim
    | skip
  cases r1
  cases r2
  rename_i i j
  obtain ⟨b1, b2, a3⟩ := rngI_ok a2
  refine ⟨i, j, rfl, b1, ?_⟩
  exact a3 _ Z2 H2 (s1.trans s2) rfl walkD_rng (by rw [List.length_map, List.length_range]; exact b2)
theorem pair_step {Z Z1 H H' : Hp} {v : V} {T : Addr} {x y : V} {d e : D} (p : Pre g Z1 H) (sz : Sub Z Z1) (h1 : v = .ref T) (h2 : H T = none) (h3 : H' = upd H T (.tup [x, y])) (rx : Rep g Z x d) (ry : Rep g Z y e) :
    ∃ Z', Step g Z1 H Z' H' ∧ g.bud H' = g.bud H ∧ Rep g Z' v (.tup [d, e]) := by
  subst h1 h3
  have sz' : Sub Z (upd Z1 T (.tup [x, y])) := fun a o h => sub_new (p.nZ h2) a o (sz a o h)
  exact ⟨_, .newZ p h2, bud_upd p (p.nF h2), .tup upd_same (by rw [sizeLine_eq]; show 2 ≤ 16777216; decide) (.cons (rx.mono sz') (.cons (ry.mono sz') .nil))⟩
theorem walk_zipT {K : PySem.W.Frag} {a b : Addr} {xs ys : List V} {n : Nat} (hn : n = min xs.length ys.length) : Walk (RZ.ItzT K a b) n (fun H => SqT K H a xs ∧ SqT K H b ys) (YPair (fun i => xs[i]?) (fun i => ys[i]?)) := by
  subst hn
  refine ⟨fun i _ hi q => ?_, fun _ q => ⟨xs, ys, q.1, q.2, by omega⟩, fun i H v H' _ q y => ?_⟩
  · have h1 : i < xs.length := by omega
    have h2 : i < ys.length := by omega
    exact ⟨xs, ys, xs[i], ys[i], q.1, q.2, by simp [h1], by simp [h2]⟩
  · obtain ⟨T, x, z, h1, h2, h3, h4, h5⟩ := y
    exact ⟨T, x, z, h1, h2, h3, h4 xs q.1, h5 ys q.2⟩
theorem zip_key {Z : Hp} {vs ws : List V} {ds es : List D} (r1 : Reps g Z vs ds) (r2 : Reps g Z ws es) : ∀ (i : Nat) (Z1 H : Hp) (x : V) (H' : Hp), i < ((ds.zip es).map fun p => D.tup [p.1, p.2]).length → Sub Z Z1 → Pre g Z1 H → YPair (fun i => vs[i]?) (fun i => ws[i]?) i H x H' →
    ∃ Z' d, ((ds.zip es).map fun p => D.tup [p.1, p.2])[i]? = some d ∧ Step g Z1 H Z' H' ∧ g.bud H' = g.bud H ∧ Rep g Z' x d := fun i Z1 H x H' hi sz p y => by
  obtain ⟨T, x1, x2, h1, h2, h3, h4, h5⟩ := y
  rw [List.length_map, List.length_zip] at hi
  have i1 : i < ds.length := by omega
  have i2 : i < es.length := by omega
  obtain ⟨v1, q1, k1⟩ := r1.get (List.getElem?_eq_getElem i1)
  obtain ⟨v2, q2, k2⟩ := r2.get (List.getElem?_eq_getElem i2)
  have h4 : vs[i]? = some x1 := h4
  have h5 : ws[i]? = some x2 := h5
  rw [q1] at h4; cases h4
  rw [q2] at h5; cases h5
  obtain ⟨Z', s, eb, rr⟩ := pair_step p sz h1 h2 h3 k1 k2
  refine ⟨Z', _, ?_, s, eb, rr⟩
  rw [List.getElem?_map, List.getElem?_zip_eq_some (z := (ds[i], es[i])).mpr ⟨List.getElem?_eq_getElem i1, List.getElem?_eq_getElem i2⟩]
  rfl
theorem frozenL_ok {Z H Z1 H1 : Hp} {v : V} {d : D} {ds : List D} (s : Step g Z H Z1 H1) (r : RepR g H Z1 H1 v d) (h : frozenL d = some ds) :
    ∃ a vs Z2, v = .ref a ∧ Step g Z H Z2 H1 ∧ Reps g Z2 vs ds ∧ vs.length ≤ sizeLine ∧ Z2 a = some (.lst vs) ∧ Sub Z1 Z2 := by
  cases d <;> simp [frozenL] at h
  · subst h
    cases r with
    | lst h1 h2 h3 => exact ⟨_, _, Z1, rfl, s, h3, h2, h1, fun _ _ e => e⟩
  · subst h
    obtain ⟨a, vs, rfl, h1, h2, h3, h4, h5, h6⟩ := r
    exact ⟨a, vs, upd Z1 a (.lst vs), rfl, s.freeze h5 h1 h4 h3, h6.mono (sub_new h4), h2, upd_same, sub_new h4⟩
theorem simI_zip (ha : SimE g W ta e1) (hb : SimE g W tb e2) : SimI g W (RZ.iZipA g.K (tCons ta (tCons tb tNil))) fun r => e1 r >>= fun x => e2 r >>= fun y => ofO (zipD x y) := by
  intro r Z σ H R c a
  refine ha.first0 c a fun x vx Z1 H1 s1 r1 a1 => ?_
  -- the first one, frozen at once
  have a1' := allE_shift s1 a1
  refine hb.first0 (c.step s1) a1' fun y vy Z2 H2 s2 r2 a2 => ?_
  obtain ⟨ds, e, a3⟩ := ofO_ok a2
  have st := s1.trans s2
  have rx := r1.step s2
  have ry := r2.back s1
  have fin : ∀ {xs ys : List D}, frozenL x = some xs → frozenL y = some ys → ds = (xs.zip ys).map (fun p => D.tup [p.1, p.2]) → ∃ a b vs ws, [vx, vy] = [.ref a, .ref b] ∧ ((SqL g.K H2 a vs ∧ SqL g.K H2 b ws ∧ R (Itz g.K a b) H2) ∨ (SqT g.K H2 a vs ∧ SqT g.K H2 b ws ∧ R (RZ.ItzT g.K a b) H2)) := fun {xs ys} f1 f2 ed => by
    subst ed
    obtain ⟨p, vs, Z3, rfl, s3, k1, k2, k3, k4⟩ := frozenL_ok st rx f1
    have ry3 : ∃ q ws Z4, vy = .ref q ∧ Step g Z H Z4 H2 ∧ Reps g Z4 ws ys ∧ ws.length ≤ sizeLine ∧ Z4 q = some (.lst ws) ∧ Sub Z3 Z4 := by
      cases y <;> simp [frozenL] at f2
      · subst f2
        cases ry with
        | lst h1 h2 h3 => exact ⟨_, _, Z3, rfl, s3, h3.mono k4, h2, k4 _ _ h1, fun _ _ e => e⟩
      · subst f2
        obtain ⟨q, ws, rfl, h1, h2, h3, h4, h5, h6⟩ := ry
        by_cases hz : Z3 q = none
        · exact ⟨q, ws, upd Z3 q (.lst ws), rfl, s3.freeze h5 h1 hz h3, (h6.mono k4).mono (sub_new hz), h2, upd_same, sub_new hz⟩
        · obtain ⟨u, hu⟩ : ∃ u, Z3 q = some u := by
            rcases none_or (H := Z3) (a := q) with e | e
            · exact absurd e hz
            · exact e
          have e2 := s3.zh _ _ hu
          rw [h1] at e2; cases e2
          exact ⟨q, ws, Z3, rfl, s3, h6.mono k4, h2, hu, fun _ _ e => e⟩
    obtain ⟨q, ws, Z4, rfl, s4, m1, m2, m3, m4⟩ := ry3
    refine ⟨p, q, vs, ws, rfl, .inl ⟨.of (s4.zh _ _ (m4 _ _ k3)), .of (s4.zh _ _ m3), a3 _ Z4 H2 s4 rfl ?_ ?_⟩⟩
    · refine ⟨_, _, walk_zip (n := _) (xs := vs) (ys := ws) ?_, fun H e => ⟨.of (e _ _ (m4 _ _ k3)), .of (e _ _ m3)⟩, zip_key (k1.mono m4) m1⟩
      rw [List.length_map, List.length_zip, k1.length, m1.length]
    · rw [List.length_map, List.length_zip, ← k1.length, ← m1.length]; omega
  unfold zipD at e
  split at e
  · cases e
    cases rx with
    | tup b1 b2 b3 =>
      cases ry with
      | tup d1 d2 d3 =>
        refine ⟨_, _, _, _, rfl, .inr ⟨.of (st.zh _ _ b1), .of (st.zh _ _ d1), a3 _ Z2 H2 st rfl ?_ ?_⟩⟩
        · refine ⟨_, _, walk_zipT (n := _) ?_, fun H e => ⟨.of (e _ _ b1), .of (e _ _ d1)⟩, zip_key b3 d3⟩
          rw [List.length_map, List.length_zip, b3.length, d3.length]
        · rw [List.length_map, List.length_zip, ← b3.length, ← d3.length]; omega
  · split at e
    · rename_i f1 f2
      cases e
      exact fin f1 f2 rfl
    · cases e
theorem enumD_get : ∀ (ds : List D) (j i : Nat) (d : D), ds[i]? = some d → (enumD j ds)[i]? = some (.tup [.int ((j + i : Nat) : Int), d])
  | [], _, _, _, h => by simp at h
  | d :: ds, j, 0, e, h => by
    simp at h
    subst h
    rfl
  | d :: ds, j, i + 1, e, h => by
    unfold enumD
    rw [List.getElem?_cons_succ] at h ⊢
    rw [enumD_get ds (j + 1) i e h, show j + 1 + i = j + (i + 1) by omega]
theorem enumD_length : ∀ (ds : List D) (j : Nat), (enumD j ds).length = ds.length
  | [], _ => rfl
  | d :: ds, j => congrArg Nat.succ (enumD_length ds (j + 1))
theorem simI_enum (ha : SimE g W ta e1) : SimI g W (iEnum g.K (tCons ta tNil)) fun r => e1 r >>= fun x => ofO ((frozenL x).map (enumD 0)) := by
  intro r Z σ H R c a
  refine ha.first0 c a fun x vx Z1 H1 s1 r1 a1 => ?_
  obtain ⟨ds, e, a2⟩ := ofO_ok a1
  obtain ⟨xs, f1, rfl⟩ := Option.map_eq_some_iff.mp e
  obtain ⟨p, vs, Z3, rfl, s3, k1, k2, k3, k4⟩ := frozenL_ok s1 r1 f1
  refine ⟨p, vs, rfl, .of (s3.zh _ _ k3), a2 _ Z3 H1 s3 rfl ?_ ?_⟩
  · refine ⟨_, _, by rw [enumD_length, ← k1.length]; exact walk_enum, fun H e => SqL.of (e _ _ k3), fun i Z1' H x H' hi sz p y => ?_⟩
    obtain ⟨T, x1, x2, h1, h2, h3, h4, h5⟩ := y
    rw [enumD_length] at hi
    obtain ⟨v2, q2, m2⟩ := k1.get (List.getElem?_eq_getElem hi)
    have h5 : vs[i]? = some x2 := h5
    rw [q2] at h5; cases h5
    cases (show some (V.int (i : Nat)) = some x1 from h4)
    obtain ⟨Z', s, eb, rr⟩ := pair_step p sz h1 h2 h3 (.int (i : Nat)) m2
    refine ⟨Z', _, enumD_get xs 0 i _ (List.getElem?_eq_getElem hi), s, eb, ?_⟩
    rw [Nat.zero_add]
    exact rr
  · rw [enumD_length, ← k1.length]; exact k2
end
end PV
end
section
set_option maxHeartbeats 4000000
/-! PvS4: targets, comprehensions, each expression by its term. -/
namespace PV
open PySem PySem.Spec PyProof.Rows L2
variable {g : GF}

/-! ### targets -/
theorem wipe_get (σ : L2.St) (k : Nat) : ∀ vs : List Nat, (wipe σ vs)[k]? = if k ∈ vs then σ[k]?.map (fun _ => none) else σ[k]?
  | [] => by simp [wipe]
  | v :: vs => by
    unfold wipe
    rw [List.getElem?_set, wipe_get σ k vs]
    have hl := wipe_length σ vs
    by_cases h : v = k
    · subst h
      rw [if_pos rfl, if_pos List.mem_cons_self]
      by_cases hk : v < σ.length
      · rw [if_pos (by rw [hl]; exact hk), List.getElem?_eq_getElem hk]; rfl
      · rw [if_neg (by rw [hl]; exact hk), List.getElem?_eq_none (by omega)]; rfl
    · rw [if_neg h]
      by_cases hk : k ∈ vs
      · rw [if_pos hk, if_pos (List.mem_cons_of_mem _ hk)]
      · rw [if_neg hk, if_neg (by rw [List.mem_cons]; exact fun e => e.elim (fun e => h e.symm) hk)]
theorem wipeE_len (r : Env) : ∀ vs : List Nat, (wipeE r vs).length = r.length
  | [] => rfl
  | v :: vs => by unfold wipeE; rw [List.length_set, wipeE_len r vs]
theorem wipeE_get (r : Env) (k : Nat) : ∀ vs : List Nat, (wipeE r vs)[k]? = if k ∈ vs then r[k]?.map (fun _ => Sl.un) else r[k]?
  | [] => by simp [wipeE]
  | v :: vs => by
    unfold wipeE
    rw [List.getElem?_set, wipeE_get r k vs]
    have hl := wipeE_len r vs
    by_cases h : v = k
    · subst h
      rw [if_pos rfl, if_pos List.mem_cons_self]
      by_cases hk : v < r.length
      · rw [if_pos (by rw [hl]; exact hk), List.getElem?_eq_getElem hk]; rfl
      · rw [if_neg (by rw [hl]; exact hk), List.getElem?_eq_none (by omega)]; rfl
    · rw [if_neg h]
      by_cases hk : k ∈ vs
      · rw [if_pos hk, if_pos (List.mem_cons_of_mem _ hk)]
      · rw [if_neg hk, if_neg (by rw [List.mem_cons]; exact fun e => e.elim (fun e => h e.symm) hk)]
theorem wipe_set {σ : L2.St} {i : Nat} {v : Option V} {vs : List Nat} (h : i ∈ vs) : wipe (σ.set i v) vs = wipe σ vs := by
  apply List.ext_getElem?
  intro k
  rw [wipe_get, wipe_get, List.getElem?_set]
  by_cases hk : k ∈ vs
  · rw [if_pos hk, if_pos hk]
    by_cases e : i = k
    · subst e
      rw [if_pos rfl]
      by_cases hl : i < σ.length
      · rw [if_pos hl, List.getElem?_eq_getElem hl]; rfl
      · rw [if_neg hl, List.getElem?_eq_none (by omega)]
    · rw [if_neg e]
  · rw [if_neg hk, if_neg hk, if_neg fun e => hk (by rw [← e]; exact h)]
theorem wipe_wipe {σ : L2.St} {vs : List Nat} : wipe (wipe σ vs) vs = wipe σ vs := by
  apply List.ext_getElem?
  intro k
  rw [wipe_get, wipe_get]
  by_cases hk : k ∈ vs
  · rw [if_pos hk, if_pos hk, Option.map_map]; rfl
  · rw [if_neg hk, if_neg hk]
theorem Cfg.wipe {r : Env} {Z H : Hp} {σ : L2.St} (c : Cfg g r Z σ H) (vs : List Nat) : Cfg g (wipeE r vs) Z (L2.wipe σ vs) H := by
  refine ⟨c.pre, by rw [wipeE_len, wipe_length]; exact c.len, fun i s e => ?_⟩
  rw [wipeE_get] at e
  rw [wipe_get]
  by_cases hk : i ∈ vs
  · rw [if_pos hk] at e ⊢
    cases q : r[i]? with
    | none => rw [q] at e; cases e
    | some s0 =>
      rw [q] at e
      cases e
      obtain ⟨o, h1, _⟩ := c.slot i s0 q
      exact ⟨none, by rw [h1]; rfl, trivial⟩
  · rw [if_neg hk] at e ⊢
    exact c.slot i s e
theorem Cfg.set {r : Env} {Z H : Hp} {σ : L2.St} {i : Nat} {s : Sl} {o : Option V} (c : Cfg g r Z σ H) (h : SlotOk g Z H s o) : Cfg g (r.set i s) Z (σ.set i o) H := by
  refine ⟨c.pre, by rw [List.length_set, List.length_set]; exact c.len, fun k s' e => ?_⟩
  rw [List.getElem?_set] at e ⊢
  by_cases hk : i = k
  · subst hk
    rw [if_pos rfl] at e ⊢
    by_cases hl : i < r.length
    · rw [if_pos hl] at e
      cases e
      rw [if_pos (by rw [← c.len]; exact hl)]
      exact ⟨o, rfl, h⟩
    · rw [if_neg hl] at e; cases e
  · rw [if_neg hk] at e ⊢
    exact c.slot k s' e
def Tg.slots : Tg → List Nat
  | .nm i => [i]
  | .tp is => is
/-- one's own lists come from before -/
def OwnSub (r : Env) (σ : L2.St) (r2 : Env) (σ2 : L2.St) : Prop := ∀ (k : Nat) (xs : List D), r2[k]? = some (.own xs) → r[k]? = some (.own xs) ∧ σ2[k]? = σ[k]?
theorem ownSub_set {r : Env} {σ : L2.St} {i : Nat} {d : D} {o : Option V} : OwnSub r σ (r.set i (.val d)) (σ.set i o) := fun k xs h => by
  rw [List.getElem?_set] at h
  by_cases e : i = k
  · subst e
    rw [if_pos rfl] at h
    split at h <;> cases h
  · rw [if_neg e] at h
    exact ⟨h, List.getElem?_set_ne e⟩
/-- what a target's reading comes to -/
def SimG (g : GF) (tg : Tg) (t : TG) : Prop := ∀ (v : V) (d : D) (r r2 : Env) (Z : Hp) (σ : L2.St) (H : Hp) (Q : L2.St → Hp → Prop), Cfg g r Z σ H → Rep g Z v d → bindTg tg d r = .ret r2 →
  (∀ σ2, Cfg g r2 Z σ2 H → (∀ vs : List Nat, (∀ i ∈ tg.slots, i ∈ vs) → wipe σ2 vs = wipe σ vs) → OwnSub r σ r2 σ2 → Q σ2 H) → t v σ H Q
theorem simG_nm {i : Nat} : SimG g (.nm i) (gName i) := by
  intro v d r r2 Z σ H Q c rv e q
  cases e
  exact q _ (c.set ⟨v, rfl, rv⟩) (fun vs h => wipe_set (h i (List.mem_singleton.mpr rfl))) ownSub_set
def gNames : List Nat → TGs
  | [] => gNil
  | i :: is => gCons (gName i) (gNames is)
theorem simG_names {Z H : Hp} {Q : L2.St → Hp → Prop} : ∀ (is : List Nat) (vs : List V) (ds : List D) (r r2 : Env) (σ : L2.St), Cfg g r Z σ H → Reps g Z vs ds → setAll is ds r = some r2 →
    (∀ σ2, Cfg g r2 Z σ2 H → (∀ ws : List Nat, (∀ i ∈ is, i ∈ ws) → wipe σ2 ws = wipe σ ws) → OwnSub r σ r2 σ2 → Q σ2 H) → gNames is vs σ H Q
  | [], _, [], r, r2, σ, c, .nil, e, q => by
    cases e
    exact ⟨rfl, q σ c (fun _ _ => rfl) fun _ _ h => ⟨h, rfl⟩⟩
  | [], _, _ :: _, _, _, _, _, _, e, _ => by cases e
  | _ :: _, _, [], _, _, _, _, _, e, _ => by cases e
  | i :: is, _, d :: ds, r, r2, σ, c, .cons rv rs, e, q => by
    refine ⟨_, _, rfl, ?_⟩
    refine simG_names is _ ds (r.set i (.val d)) r2 _ (c.set ⟨_, rfl, rv⟩) rs e fun σ2 c2 h os => q σ2 c2 (fun ws hw => ?_) fun k xs hk => ?_
    · rw [h ws fun j hj => hw j (List.mem_cons_of_mem _ hj)]
      exact wipe_set (hw i List.mem_cons_self)
    · obtain ⟨h1, h2⟩ := os k xs hk
      obtain ⟨h3, h4⟩ := ownSub_set k xs h1
      exact ⟨h3, h2.trans h4⟩
theorem setAll_len : ∀ {is : List Nat} {ds : List D} {r r2 : Env}, setAll is ds r = some r2 → ds.length = is.length
  | [], [], _, _, _ => rfl
  | [], _ :: _, _, _, e => by cases e
  | _ :: _, [], _, _, e => by cases e
  | _ :: is, _ :: ds, _, _, e => congrArg Nat.succ (setAll_len (is := is) (ds := ds) e)
theorem simG_tp {is : List Nat} : SimG g (.tp is) (gTup g.K is.length (gNames is)) := by
  intro v d r r2 Z σ H Q c rv e q
  cases d <;> first
    | (cases e; done)
    | skip
  cases rv with
  | tup h1 h2 h3 =>
    rename_i ds a vs
    have e : ofO (setAll is ds r) = .ret r2 := e
    cases e2 : setAll is ds r with
    | none => rw [e2] at e; cases e
    | some r3 =>
      rw [e2] at e
      cases e
      have hl : vs.length = is.length := by
        rw [h3.length]
        exact setAll_len e2
      exact ⟨a, vs, rfl, .of (c.pre.zh _ _ h1), hl, simG_names is vs ds r _ σ c h3 e2 q⟩

/-! ### comprehensions -/
section
variable {W : Nat → Hp → Prop}
theorem Step.setOwn {Z H Z' H' : Hp} (s : Step g Z H Z' H') {a : Addr} {ws vs : List V} (h : H a = none) (nf : ¬ g.F a) (hz : Z' a = none) (hq : H' a = some (.lst ws)) : Step g Z H Z' (upd H' a (.lst vs)) :=
  ⟨s.z, fun b u e => by rw [upd_ne (ne_of_none e hz)]; exact s.zh b u e, fun b u e f => by rw [upd_ne (ne_of_none e h)]; exact s.h b u e f, s.new, s.zf, good_upd s.pre nf (fun f z => by rw [hq] at z; cases z) fun _ z => by cases z⟩
theorem sim_comp {wi : TI} {ei : Env → T (List D)} {tg : Tg} {gt : TG} {tt : TT} {bt : Env → T Bool} {te : TE} {ee : Env → T D} {ws : List Nat} (hi : SimI g W wi ei) (hg : SimG g tg gt) (ht : SimB g (fun _ _ => False) tt bt) (he : SimE g (fun _ _ => False) te ee)
    (hin : ∀ i ∈ tg.slots, i ∈ ws) :
    SimE g W (tLc wi gt tt te ws) fun r => ei r >>= fun ds => noErr (compL (compF tg ws bt ee r) ds) >>= fun ys => .ret (.new ys) := by
  intro r Z σ H Q c a
  rw [all_bind] at a
  refine hi r Z σ H _ c (All.mono a (fun ds h1 J Z1 H1 s1 e1 wd hl => ?_) fun _ x => x)
  subst e1
  intro Dd hD
  obtain ⟨Gd, Y, wk, hGd, hY⟩ := wd
  have nf : ¬ g.F Dd := s1.pre.nF hD
  have zD : Z1 Dd = none := s1.pre.nZ hD
  have c1 := c.step s1
  rw [all_bind] at h1
  -- the turn's state
  refine lc_it wk (fun i H2 => ∃ Z2 acc ys, Step g Z1 H1 Z2 H2 ∧ Z2 Dd = none ∧ H2 Dd = some (.lst acc) ∧ Reps g Z2 acc ys ∧ acc.length ≤ i ∧
    (compL (compF tg ws bt ee r) (ds.drop i)).All (fun m rest => Post g Z H Q m (.new (ys ++ rest))) (fun _ _ => False) (g.bud H2)) ?_ ?_ ?_ ?_
  · refine ⟨Z1, [], [], .newH s1.pre hD, zD, upd_same, .nil, Nat.le_refl _, ?_⟩
    rw [List.drop_zero, bud_upd s1.pre nf]
    exact noErr_all h1
  · rintro i H2 _ ⟨Z2, acc, ys, s2, z2, h2, r2, l2, a2⟩
    exact hGd H2 fun b o e => s2.zh b o (s2.z b o e)
  · rintro i x H2 H3 hi ⟨Z2, acc, ys, s2, z2, h2, r2, l2, a2⟩ y
    obtain ⟨Z3, d, ed, s3, eb3, rd⟩ := hY i Z2 H2 x H3 hi s2.z s2.pre y
    rw [← eb3] at a2
    have s13 := s2.trans s3
    have h3 : H3 Dd = some (.lst acc) := s3.h _ _ h2 nf
    have z3 : Z3 Dd = none := none_step s3 h2 z2
    have hdrop : ds.drop i = d :: ds.drop (i + 1) := by
      have q := List.getElem?_eq_some_iff.mp ed
      obtain ⟨hlt, e⟩ := q
      rw [List.drop_eq_getElem_cons hlt, e]
    rw [hdrop] at a2
    unfold compL at a2
    rw [show compF tg ws bt ee r d = (bindTg tg d (wipeE r ws) >>= fun r2 => bt r2 >>= fun k => if k = true then ee r2 >>= fun y => fz y >>= fun y => .ret (some y) else .ret none) from rfl, bind_assoc'] at a2
    have cw : Cfg g (wipeE r ws) Z3 (wipe σ ws) H3 := (c1.step s13).wipe ws
    -- the target
    cases eb : bindTg tg d (wipeE r ws) with
    | err _ => rw [eb] at a2; exact a2.elim
    | bad => rw [eb] at a2; exact a2.elim
    | draw n k =>
      exfalso
      cases tg with
      | nm i => cases eb
      | tp is =>
        cases d <;> first
          | (cases eb; done)
          | (rename_i xs; have eb : ofO (setAll is xs (wipeE r ws)) = .draw n k := eb; cases q : setAll is xs (wipeE r ws) <;> rw [q] at eb <;> cases eb)
    | ret r3 =>
      rw [eb] at a2
      have a2 : (bt r3 >>= fun k => (if k = true then ee r3 >>= fun y => fz y >>= fun y => .ret (some y) else .ret none : T (Option D)) >>= fun o => compL (compF tg ws bt ee r) (ds.drop (i + 1)) >>= fun rr => .ret (match o with | some y => y :: rr | none => rr)).All (fun m rest => Post g Z H Q m (.new (ys ++ rest))) (fun _ _ => False) (g.bud H3) := by
        rw [← bind_assoc']
        exact a2
      refine hg x d _ r3 Z3 _ H3 _ cw rd eb fun σ2 c2 hw _ => ⟨by rw [hw ws hin, wipe_wipe], ?_⟩
      rw [all_bind] at a2
      refine ht r3 Z3 σ2 H3 _ c2 (All.mono a2 (fun k a3 Z4 H4 s4 e4 => ?_) fun _ x => x.elim)
      subst e4
      have h4 : H4 Dd = some (.lst acc) := s4.h _ _ h3 nf
      have z4 : Z4 Dd = none := none_step s4 h3 z3
      cases k with
      | false =>
        rw [if_neg Bool.false_ne_true] at a3
        show (if false = true then _ else _)
        rw [if_neg Bool.false_ne_true]
        refine ⟨Z4, acc, ys, s13.trans s4, z4, h4, r2.mono fun b o e => s4.z b o (s3.z b o e), by omega, ?_⟩
        have a3 : (compL (compF tg ws bt ee r) (ds.drop (i + 1)) >>= fun rr => .ret rr).All (fun m rest => Post g Z H Q m (.new (ys ++ rest))) (fun _ _ => False) (g.bud H4) := a3
        rw [show (fun rr : List D => T.ret rr) = T.ret from rfl, bind_ret] at a3
        exact a3
      | true =>
        rw [if_pos rfl] at a3
        show (if true = true then _ else _)
        rw [if_pos rfl]
        rw [bind_assoc', all_bind] at a3
        refine he r3 Z4 σ2 H4 _ (c2.step s4) (All.mono a3 (fun dy a4 vy Z5 H5 s5 e5 ry => ?_) fun _ x => x.elim)
        subst e5
        rw [bind_assoc', all_bind] at a4
        obtain ⟨y', Z6, a5, s6, sub6, ry6⟩ := fz_ok s5 ry a4
        have h5 : H5 Dd = some (.lst acc) := s5.h _ _ h4 nf
        have z6 : Z6 Dd = none := none_step s6 h4 z4
        refine ⟨acc, h5, Nat.lt_of_lt_of_le (Nat.lt_of_le_of_lt l2 hi) hl, Z6, acc ++ [vy], ys ++ [y'], ?_, z6, upd_same, ?_, by rw [List.length_append]; show acc.length + 1 ≤ i + 1; omega, ?_⟩
        · exact ((s13.trans s4).trans s6).setOwn hD nf z6 h5
        · exact (r2.mono fun b o e => s6.z b o (s4.z b o (s3.z b o e))).append (.cons ry6 .nil)
        · have a5 : (compL (compF tg ws bt ee r) (ds.drop (i + 1)) >>= fun rr => .ret (y' :: rr)).All (fun m rest => Post g Z H Q m (.new (ys ++ rest))) (fun _ _ => False) (g.bud H5) := a5
          rw [all_bind] at a5
          rw [bud_upd s5.pre nf]
          refine All.mono a5 (fun rest q => ?_) fun _ x => x
          rw [List.append_assoc]
          exact q
  · rintro H2 ⟨Z2, acc, ys, s2, z2, h2, r2, l2, a2⟩
    rw [List.drop_length] at a2
    have a2 : Post g Z H Q (g.bud H2) (.new (ys ++ [])) := a2
    rw [List.append_nil] at a2
    have s0 := s1.trans s2
    have hD0 : H Dd = none := by
      rcases none_or (H := H) (a := Dd) with e | ⟨u, e⟩
      · exact e
      · rw [s1.h _ _ e nf] at hD; cases hD
    exact a2 _ Z2 H2 s0 rfl ⟨Dd, acc, rfl, h2, Nat.le_trans l2 hl, nf, z2, hD0, r2⟩
end
end PV
end
section
set_option maxHeartbeats 4000000
/-! PvS5: each expression by its term. -/
namespace PV
open PySem PySem.Spec PyProof.Rows L2

/-- what a def that makes lambdas says -/
structure LamC (g : GF) (ck : Ck) (n : Nat) (C : Cx) : Prop where
  room : Room (n + 3) C.A
  cl : C.env.cells = g.cl
  q : C.env.qual = g.q
  nex : C.ex = []
  lk : ∀ k pa bo scp, g.lk k pa bo scp ↔ lamOkB ck C.env.scope k pa bo scp = true
  lt : g.lt = fun t => ck.ltab.lookup t
  ex : ∃ c P, LamX.TabB g.base g.mg c P ∧ C.env.code = .ref c ∧ (P, C.env.qual ++ "<lambda>") ∈ g.T ∧ ∀ p ∈ g.T, p.1 = P → p.2 = C.env.qual ++ "<lambda>"
  h0 : ∀ a ps, g.Hs a = some (.tbl ps) → ∃ ps', C.H_0 a = some (.tbl ps')
/-- _law_caught as it stands -/
structure CauF (g : G) (nx : Nat) : Prop where
  ex : ∃ (ad CS : Addr) (k : Nat) (p1 p2 p3 p4 p5 p6 p7 p8 p9 p10 p11 p12 p13 p14 : Pos) (pg : Arguments) (sg : Scope) (dV kV doc pm cdv ct oc : Value) (an od : Option Addr) (osl : Array (Option Value)),
    g.mg "_law_caught" = some (.ref ad) ∧ PySem.W.keepIn g.K (.ref ad) = true ∧
    g.K.lookup ad = some ⟨oc, od, .func (PySem.W.fnOf "_law_caught" "_law_caught" pg (caughtB p1 p2 p3 p4 p5 p6 p7 p8 p9 p10 p11 p12 p13 p14 k) sg dV kV doc pm an cdv ct), osl⟩ ∧ PySem.W.codeIn g.K cdv "_law_caught" = true ∧
    Binds g.K (PySem.W.fnOf "_law_caught" "_law_caught" pg (caughtB p1 p2 p3 p4 p5 p6 p7 p8 p9 p10 p11 p12 p13 p14 k) sg dV kV doc pm an cdv ct) ["work"] [] ∧ FnScope NC ["work"] sg ∧ Vis sg "work" ∧
    sg.names.lookup ("HoweverError" : Str) = some .globalImplicit ∧ sg.names.lookup ("caught" : Str) = some .local ∧ sg.names.lookup ("error" : Str) = some .local ∧ g.mg "HoweverError" = some (.ref CS) ∧
    ∀ k, k < nx → PySem.W.exmOne g.K (.ref (g.cad k)) (.ref CS) = some true
/-- isinstance of an own class -/
structure ExsF (g : G) (nx k : Nat) (y : Str) : Prop where
  mg : g.mg y = some (.ref (g.cad k))
  ki : ∀ c, c < nx → PySem.W.kitOne g.K (.ref (g.cad c)) (.ref (g.cad k)) = some (decide (c = k))
  kn : PySem.W.kitOne g.K (.type "NoneType") (.ref (g.cad k)) = some false
  ec : ∀ c, c < nx → ExcC g.K (g.cad c)
structure CtxOk (g : GF) (ck : Ck) (sc : Scope) (W : Nat → Hp → Prop) (n : Nat) (C : Cx) : Prop where
  prog : C.prog = g.P
  w : C.w = g.w
  K : C.K = g.K
  mg : C.mg = g.mg
  base : C.base = g.base
  N : C.N = ck.N
  lam : ck.lam = some sc → LamC g ck n C
  sc : C.env.scope = sc
  calm : C.calm = true
  room : Room n C.A
  tk : Takes C (fun cls d _ H => ∃ c, cls = .ref (g.cad c) ∧ d = none ∧ W c H)
/-- a def that keeps to what it computes -/
def FnE (g : G) (call : Nat → List D → T D) (n k : Nat) (x : Str) (m : Nat) : Prop :=
  ∃ (ad : Addr) (fd : FuncData) (ps : List Str), g.mg x = some (.ref ad) ∧ PySem.W.keepIn g.K (.ref ad) = true ∧ Binds g.K fd ps [] ∧ ps.length = m ∧ FnOk g.P g.w g.K g.mg g.base (L2.CX g.P g.w) n ad fd ps (spD g call k)
/-- the same, called by keywords alone -/
def FnK (g : G) (call : Nat → List D → T D) (n k : Nat) (x : Str) (ks : List Str) (perm : List Nat) : Prop :=
  ∃ (ad : Addr) (fd : FuncData) (ps : List Str), g.mg x = some (.ref ad) ∧ PySem.W.keepIn g.K (.ref ad) = true ∧ FnOk g.P g.w g.K g.mg g.base (L2.CX g.P g.w) n ad fd ps (spD g call k) ∧
    ∀ (s : Shared) (ws ys : List Value), g.K.In s.heap → ws.length = ks.length → permL perm ws = some ys → BindsTo s fd ⟨[], ks.zip ws⟩ (ps.zip ys)
/-- the same, some positional, some by keywords -/
def FnM (g : G) (call : Nat → List D → T D) (n k : Nat) (x : Str) (m : Nat) (ks : List Str) (perm : List Nat) : Prop :=
  ∃ (ad : Addr) (fd : FuncData) (ps : List Str), g.mg x = some (.ref ad) ∧ PySem.W.keepIn g.K (.ref ad) = true ∧ FnOk g.P g.w g.K g.mg g.base (L2.CX g.P g.w) n ad fd ps (spD g call k) ∧
    ∀ (s : Shared) (us ws ys : List Value), g.K.In s.heap → us.length = m → ws.length = ks.length → permL perm (us ++ ws) = some ys → BindsTo s fd ⟨us, ks.zip ws⟩ (ps.zip ys)
def freeNames : List Str := ["abs", "max", "min", "len", "sum", "all", "any", "sorted", "list", "tuple", "int", "bool", "str", "isinstance", "range", "zip", "enumerate"]
def NF : List Str := ["works", "stages", "work", "stage", "caught", "due"]
/-- the text of _law_pt_first_errors -/
inductive IsFirst : List Stmt → Prop
  | mk {a1 a2 a3 a4 a5 a6 a7 b1 b2 b3 b4 b5 c1 c2 c3 c4 c5 c6 d1 d2 d3 d4 d5 d6 d7 d8 d9 e1 e2 e3 e4 e5 e6 e7 f1 f2 f3 f4 f5 f6 f7 f8 f9 h1 h2 : Pos} {n k1 k2 k3 k4 k5 k6 : Nat} : IsFirst
    [.For (.Tuple [.Name "work" a1, .Name "stage" a2] n a3) (.Call (.Name "zip" a4) [.Name "works" a5, .Name "stages" a6] [] a7)
      [.Assign [.Name "caught" b1] (.Call (.Name "_law_caught" b2) [.Name "work" b3] [] b4) b5,
       .Assign [.Name "due" c1] (.Dict [some (.Constant (.str "pot") k1 c2), some (.Constant (.str "left") k2 c3), some (.Constant (.str "claims") k3 c4), some (.Constant (.str "stretch") k4 c5)]
         [.Call (.Name "isinstance" d1) [.Name "caught" d2, .Name "BadPot" d3] [] d4, .Call (.Name "isinstance" d5) [.Name "caught" d6, .Name "BadLeft" d7] [] d8,
          .Call (.Name "isinstance" d9) [.Name "caught" e1, .Name "BadClaims" e2] [] e3, .Call (.Name "isinstance" e4) [.Name "caught" e5, .Name "BadStretch" e6] [] e7] f1) f2,
       .If (.UnaryOp .Not (.Subscript (.Name "due" f3) (.Name "stage" f4) f5) f6) [.Return (some (.Constant (.bool false) k5 f7)) f8] [] f9] [] h1,
     .Return (some (.Constant (.bool true) k6 h2)) c6]
/-- _law_pt_first_errors as it stands -/
structure FirF (g : G) (nx : Nat) (ids : List (Str × Nat)) : Prop where
  ex : ∃ (ad : Addr) (bg : List Stmt) (pg : Arguments) (sg : Scope) (dV kV doc pm cdv ct oc : Value) (an od : Option Addr) (osl : Array (Option Value)) (k1 k2 k3 k4 : Nat),
    g.mg "_law_pt_first_errors" = some (.ref ad) ∧ PySem.W.keepIn g.K (.ref ad) = true ∧
    g.K.lookup ad = some ⟨oc, od, .func (PySem.W.fnOf "_law_pt_first_errors" "_law_pt_first_errors" pg bg sg dV kV doc pm an cdv ct), osl⟩ ∧ PySem.W.codeIn g.K cdv "_law_pt_first_errors" = true ∧
    Binds g.K (PySem.W.fnOf "_law_pt_first_errors" "_law_pt_first_errors" pg bg sg dV kV doc pm an cdv ct) ["works", "stages"] [] ∧ FnScope NF ["works", "stages"] sg ∧ IsFirst bg ∧
    (∀ x ∈ NF, sg.names.lookup x = some .local) ∧ (∀ x ∈ (["zip", "_law_caught", "isinstance", "BadPot", "BadLeft", "BadClaims", "BadStretch"] : List Str), sg.names.lookup x = some .globalImplicit) ∧
    ids = [(("pot" : Str), k1), (("left" : Str), k2), (("claims" : Str), k3), (("stretch" : Str), k4)] ∧ ExsF g nx k1 "BadPot" ∧ ExsF g nx k2 "BadLeft" ∧ ExsF g nx k3 "BadClaims" ∧ ExsF g nx k4 "BadStretch"
structure Facts (g : G) (ck : Ck) (call : Nat → List D → T D) (n : Nat) : Prop where
  nd : ck.N.Nodup
  fn : ∀ k x m, (k, x, m) ∈ ck.fns → FnE g call n k x m
  kw : ∀ k x ks perm, (k, x, ks, perm) ∈ ck.kws → FnK g call n k x ks perm ∧ perm.length = ks.length
  mw : ∀ k x m ks perm, (k, x, m, ks, perm) ∈ ck.mws → FnM g call n k x m ks perm ∧ perm.length = m + ks.length
  bf : ∀ x id, (x, id) ∈ ck.bfs → g.mg x = some (.builtin id)
  con : ∀ x i, (x, i) ∈ ck.cons → ∃ t, g.mg x = some (.int i t)
  free : ∀ x ∈ freeNames, g.mg x = none
  cau : ck.lam ≠ none → CauF g ck.nx
  exs : ∀ k y, (k, y) ∈ ck.exs → ExsF g ck.nx k y
  fir : ck.ltab ≠ [] → FirF g ck.nx ck.dues
section
variable {g : GF} {ck : Ck} {sc : Scope} {W : Nat → Hp → Prop} {n : Nat} {C : Cx} {call : Nat → List D → T D}
theorem plain_star {e : Expr} {es : List Expr} {env : PySem.Env} (h : plainE e = true) : starEach (e :: es) env = (false, eval e env) :: starEach es env := by
  cases e <;> first
    | rfl
    | exact (Bool.false_ne_true h).elim
theorem plain_any {pos : Pos} {env : PySem.Env} : ∀ {es : List Expr}, es.all plainE = true → (backTo pos (starEach es env)).any (·.1) = false
  | [], _ => rfl
  | e :: es, h => by
    rw [List.all_cons, Bool.and_eq_true] at h
    rw [plain_star h.1]
    exact plain_any (es := es) h.2
theorem glB_ok {x : Str} (h : glB sc x = true) : sc.names.lookup x = some .globalImplicit ∧ (x == ("__debug__" : Str)) = false ∧ x ≠ ("__name__" : Str) := by
  unfold glB at h
  simp only [Bool.and_eq_true, decide_eq_true_eq, Bool.not_eq_true'] at h
  exact ⟨h.1.1, h.1.2, h.2⟩
theorem CtxOk.gl (c : CtxOk g ck sc W n C) {x : Str} (h : glB sc x = true) : Gl C x := by
  show C.env.scope.names.lookup x = _
  rw [c.sc]
  exact (glB_ok h).1
theorem CtxOk.units (c : CtxOk g ck sc W n C) : C.A.units + 64 < cLine := c.room.units
theorem CtxOk.free (c : CtxOk g ck sc W n C) (F : Facts g ck call n) {x : Str} (h : x ∈ freeNames) : C.mg x = none := by rw [c.mg]; exact F.free x h

/-! ### operators -/
def rB (g : G) : BOp → R2
  | .add => fun x y H Q => rI0 (fun i j => .int (i + j)) x y H Q ∨ rCatA g.K x y H Q ∨ rCat x y H Q
  | .sub => rI0 fun i j => .int (i - j)
  | .mul => fun x y H Q => rI CMul (fun i j => .int (i * j)) x y H Q ∨ rRepT g.K x y H Q ∨ rRep x y H Q
  | .fdiv => rI CDivW fun i j => .int (i / j)
  | .mod => rI (fun _ j => 0 < j) fun i j => .int (i % j)
  | .pow => rI CPow fun i j => .int (i ^ j.toNat)
theorem rB_s : ∀ op, OpS g (rB g op) (binT op)
  | .add => ops_add | .sub => ops_sub | .mul => ops_mul | .fdiv => ops_fdiv | .mod => ops_mod | .pow => ops_pow
theorem rB_o (c : CtxOk g ck sc W n C) {op : BOp} {o : Operator} (h : bopB op o = true) : OpR C (binaryOp o) (rB g op) := by
  cases op <;> cases o <;> first
    | exact (Bool.false_ne_true h).elim
    | skip
  · have e1 : OpR C (binaryOp .Add) (rCatA g.K) := by rw [← c.K]; exact op_catA
    exact op_add.or (e1.or op_cat)
  · exact op_sub
  · have e1 : OpR C (binaryOp .Mult) (rRepT g.K) := by rw [← c.K]; exact op_repT
    exact op_mul.or (e1.or op_rep)
  · exact op_fdivW
  · exact op_mod
  · exact op_pow
section
variable {X : Cx} {a b c d : Expr} {ta tb tc td : TE} {o1 o2 o3 : CmpOp} {r1 r2 r3 : R2} {pos : Pos}
theorem pe_chain3 (h1 : OpR X (compareOp o1) r1) (h2 : OpR X (compareOp o2) r2) (h3 : OpR X (compareOp o3) r3) (ha : PE X a ta) (hb : PE X b tb) (hc : PE X c tc) (hd : PE X d td) (hm : lastMarks [o1, o2, o3] [b, c, d] = false) :
    PE X (.Compare a [o1, o2, o3] [b, c, d] pos) (tChain3 r1 r2 r3 ta tb tc td) := by
  refine ⟨fun pins s σ H Q I h => ?_⟩
  refine Compare_chain (thn (ha.run pins s σ H _ I h) fun v s1 ⟨x, H1, I1, u1, q1⟩ => chain_link (thn (hb.run pins s1 σ H1 _ I1 q1) fun v2 s2 ⟨y, H2, I2, u2, q2⟩ =>
    thn (h1 pins s2 σ H2 x y v v2 _ I2 u1 u2 q2) fun dv s3 ⟨z, H3, I3, u3, k, e, q3⟩ => ?_)) hm
  subst e
  cases u3
  refine wpAny_truthy_bool ?_
  cases k with
  | false => exact ite_ff ⟨.bl false, H3, I3, rfl, q3⟩
  | true =>
    refine ite_tt (chain_link (thn (hc.run pins s3 σ H3 _ I3 q3) fun v3 s4 ⟨w, H4, I4, u4, q4⟩ =>
      thn (h2 pins s4 σ H4 y w v2 v3 _ I4 u2 u4 q4) fun dv s5 ⟨z2, H5, I5, u5, k2, e2, q5⟩ => ?_))
    subst e2
    cases u5
    refine wpAny_truthy_bool ?_
    cases k2 with
    | false => exact ite_ff ⟨.bl false, H5, I5, rfl, q5⟩
    | true => exact ite_tt (chain_last (thn (hd.run pins s5 σ H5 _ I5 q5) fun v4 s6 ⟨z', H6, I6, u6, q6⟩ => h3 pins s6 σ H6 w z' v3 v4 Q I6 u4 u6 q6))
theorem pt_chain3 (h1 : OpR X (compareOp o1) r1) (h2 : OpR X (compareOp o2) r2) (h3 : OpR X (compareOp o3) r3) (ha : PE X a ta) (hb : PE X b tb) (hc : PE X c tc) (hd : PE X d td) (hm : lastMarks [o1, o2, o3] [b, c, d] = false) :
    PT X (.Compare a [o1, o2, o3] [b, c, d] pos) (tTest (tChain3 r1 r2 r3 ta tb tc td)) := by
  refine ⟨fun pins s σ H Q I h => ?_⟩
  refine isTrue_chain (thn (ha.run pins s σ H _ I h) fun v s1 ⟨x, H1, I1, u1, q1⟩ => test_link (thn (hb.run pins s1 σ H1 _ I1 q1) fun v2 s2 ⟨y, H2, I2, u2, q2⟩ =>
    thn (h1 pins s2 σ H2 x y v v2 _ I2 u1 u2 q2) fun dv s3 ⟨z, H3, I3, u3, k, e, q3⟩ => ?_)) hm
  subst e
  cases u3
  refine wpAny_truthy_bool ?_
  cases k with
  | false =>
    obtain ⟨k', e', q'⟩ := q3
    cases e'
    exact ite_ff ⟨H3, I3, q'⟩
  | true =>
    refine ite_tt (test_link (thn (hc.run pins s3 σ H3 _ I3 q3) fun v3 s4 ⟨w, H4, I4, u4, q4⟩ =>
      thn (h2 pins s4 σ H4 y w v2 v3 _ I4 u2 u4 q4) fun dv s5 ⟨z2, H5, I5, u5, k2, e2, q5⟩ => ?_))
    subst e2
    cases u5
    refine wpAny_truthy_bool ?_
    cases k2 with
    | false =>
      obtain ⟨k', e', q'⟩ := q5
      cases e'
      exact ite_ff ⟨H5, I5, q'⟩
    | true =>
      refine ite_tt (test_last (thn (hd.run pins s5 σ H5 _ I5 q5) fun v4 s6 ⟨z', H6, I6, u6, q6⟩ => thn (h3 pins s6 σ H6 w z' v3 v4 _ I6 u4 u6 q6) fun d' s7 ⟨z3, H7, I7, u7, k3, e3, q7⟩ => ?_))
      subst e3
      cases u7
      exact wpAny_truthy_bool ⟨H7, I7, q7⟩
end
def rC (g : G) : COp → R2
  | .lt => fun x y H Q => rI0 (fun i j => .bl (decide (i < j))) x y H Q ∨ rLtT g.K x y H Q
  | .le => rI0 fun i j => .bl (decide (i ≤ j))
  | .gt => rI0 fun i j => .bl (decide (j < i))
  | .ge => rI0 fun i j => .bl (decide (j ≤ i))
  | .eq => rEqD g.K
  | .ne => rNeD g.K
  | .is => fun x y H Q => (y = .non ∧ Q (.bl (decide (x = .non))) H) ∨ rIsB x y H Q
  | .isn => fun x y H Q => (y = .non ∧ Q (.bl (!decide (x = .non))) H) ∨ rNotB x y H Q
  | .inn => rIn g.K false
  | .nin => rIn g.K true
theorem rC_s : ∀ op, CmpS g (rC g op) (cmpT op)
  | .lt => cmp_lt | .le => cmp_le | .gt => cmp_gt | .ge => cmp_ge | .eq => cmp_eq | .ne => cmp_ne | .is => cmp_is | .isn => cmp_isn | .inn => cmp_inn | .nin => cmp_nin
theorem rC_o (c : CtxOk g ck sc W n C) {op : COp} {o : CmpOp} (h : copB op o = true) : OpR C (compareOp o) (rC g op) := by
  cases op <;> cases o <;> first
    | exact (Bool.false_ne_true h).elim
    | skip
  · have e1 : OpR C (compareOp .Lt) (rLtT g.K) := by rw [← c.K]; exact op_ltT c.room.units0
    exact op_lt.or e1
  · exact op_le
  · exact op_gt
  · exact op_ge
  · show OpR C (compareOp .Eq) (rEqD g.K)
    rw [← c.K]; exact op_eqD c.units
  · show OpR C (compareOp .NotEq) (rNeD g.K)
    rw [← c.K]; exact op_neD c.units
  · exact op_isN.or op_isBl
  · exact op_notN.or op_notBl
  · show OpR C (compareOp .In) (rIn g.K false)
    rw [← c.K]; exact op_in_seq
  · show OpR C (compareOp .NotIn) (rIn g.K true)
    rw [← c.K]; exact op_notIn_seq

/-! ### built-in calls -/
def rF (g : G) : Blt → List V → Hp → VK → Prop
  | .abs => fun xs H Q => ∃ i, xs = [.int i] ∧ Q (.int (if i < 0 then -i else i)) H
  | .max => fun xs H Q => (∃ i j, xs = [.int i, .int j] ∧ Q (.int (if j > i then j else i)) H) ∨ rMax g.K xs H Q ∨ rMaxT g.K xs H Q
  | .min => fun xs H Q => (∃ i j, xs = [.int i, .int j] ∧ Q (.int (if j < i then j else i)) H) ∨ rMin g.K xs H Q ∨ rMinT g.K xs H Q
  | .len => fun xs H Q => ∃ p ys, xs = [.ref p] ∧ (SqL g.K H p ys ∨ SqT g.K H p ys) ∧ Q (.int ys.length) H
  | .sum => fun xs H Q => rSum g.K xs H Q ∨ rSumT g.K xs H Q
  | .all => rAll g.K
  | .any => rAny g.K
  | .sorted => rSorted g.K
  | .list => fun xs H Q => ∃ p ys, xs = [.ref p] ∧ (SqL g.K H p ys ∨ SqT g.K H p ys) ∧ ∀ l, H l = none → Q (.ref l) (upd H l (.lst ys))
  | .tuple => fun xs H Q => ∃ p ys, xs = [.ref p] ∧ ((SqL g.K H p ys ∧ ∀ l, H l = none → Q (.ref l) (upd H l (.tup ys))) ∨ (SqT g.K H p ys ∧ Q (.ref p) H))
  | .int => fun xs H Q => (∃ i, xs = [.int i] ∧ Q (.int i) H) ∨ ∃ k, xs = [.bl k] ∧ Q (.int (if k then 1 else 0)) H
  | .gcd => rGcd
  | .comb => rComb
  | .str => fun xs H Q => ∃ i : Int, xs = [.int i] ∧ i.natAbs.log2 < 1920 ∧ Q (.str (toString i)) H
  | _ => fun _ _ _ => False
theorem rF_s {f : Blt} (h : kindName f = none) : BltS g (rF g f) (bltT f) := by
  cases f <;> first
    | (cases h; done)
    | skip
  · exact blt_abs
  · exact blt_max
  · exact blt_min
  · exact blt_len
  · exact blt_sum
  · exact blt_all
  · exact blt_any
  · exact blt_sorted
  · exact blt_list
  · exact blt_tuple
  · exact blt_int
  · exact blt_gcd
  · exact blt_comb
  · exact blt_str
/-- f(..), f a built-in of the ones above -/
theorem pe_blt (c : CtxOk g ck sc W n C) (F : Facts g ck call n) {f : Blt} (hk : kindName f = none) {x : Str} (hx : x = bltName f) (hg : glB sc x = true) {p pos : Pos} {e : Expr} {es : List Expr} {t : TA} (ha : PA C (e :: es) t) (hp : (e :: es).all plainE = true) (hm : modB ck f = true) :
    PE C (.Call (.Name x p) (e :: es) [] pos) (tCB (rF g f) t) := by
  have hp' := hp
  rw [List.all_cons, Bool.and_eq_true] at hp'
  have he : starEach (e :: es) C.env = (false, eval e C.env) :: starEach es C.env := plain_star hp'.1
  have hpl : (backTo pos (starEach es C.env)).any (·.1) = false := plain_any hp'.2
  obtain ⟨g1, g2, g3⟩ := glB_ok hg
  have gl := c.gl hg
  have q : ∀ {a b : Prop}, a → b → a := fun h _ => h
  subst hx
  cases f <;> first
    | (cases hk; done)
    | skip
  · exact pe_callB call_abs gl (c.free F (by decide +kernel)) (by decide +kernel) ha g3 g2 he hpl
  · have e1 : CallR C (.builtin "max") (rMax g.K) := by rw [← c.K]; exact cr_max c.calm
    have e2 : CallR C (.builtin "max") (rMaxT g.K) := by rw [← c.K]; exact cr_maxT c.calm
    exact pe_callB ((call_max2 c.calm).or (e1.or e2)) gl (c.free F (by decide +kernel)) (by decide +kernel) ha g3 g2 he hpl
  · have e1 : CallR C (.builtin "min") (rMin g.K) := by rw [← c.K]; exact cr_min c.calm
    have e2 : CallR C (.builtin "min") (rMinT g.K) := by rw [← c.K]; exact cr_minT c.calm
    exact pe_callB ((call_min2 c.calm).or (e1.or e2)) gl (c.free F (by decide +kernel)) (by decide +kernel) ha g3 g2 he hpl
  · have e1 : CallR C (.builtin "len") (rF g .len) := by show CallR C _ (fun xs H Q => ∃ p ys, xs = [.ref p] ∧ (SqL g.K H p ys ∨ SqT g.K H p ys) ∧ Q (.int ys.length) H); rw [← c.K]; exact call_len_seq
    exact pe_callB e1 gl (c.free F (by decide +kernel)) (by decide +kernel) ha g3 g2 he hpl
  · have e1 : CallR C (.builtin "sum") (rSum g.K) := by rw [← c.K]; exact cr_sum c.calm
    have e2 : CallR C (.builtin "sum") (rSumT g.K) := by rw [← c.K]; exact cr_sumT c.calm
    exact pe_callB (e1.or e2) gl (c.free F (by decide +kernel)) (by decide +kernel) ha g3 g2 he hpl
  · have e1 : CallR C (.builtin "all") (rAll g.K) := by rw [← c.K]; exact cr_all c.calm
    exact pe_callB e1 gl (c.free F (by decide +kernel)) (by decide +kernel) ha g3 g2 he hpl
  · have e1 : CallR C (.builtin "any") (rAny g.K) := by rw [← c.K]; exact cr_any c.calm
    exact pe_callB e1 gl (c.free F (by decide +kernel)) (by decide +kernel) ha g3 g2 he hpl
  · have e1 : CallR C (.builtin "sorted") (rSorted g.K) := by rw [← c.K]; exact cr_sorted
    exact pe_callB e1 gl (c.free F (by decide +kernel)) (by decide +kernel) ha g3 g2 he hpl
  · have e1 : CallR C (.type "list") (rF g .list) := by show CallR C _ (fun xs H Q => ∃ p ys, xs = [.ref p] ∧ (SqL g.K H p ys ∨ SqT g.K H p ys) ∧ ∀ l, H l = none → Q (.ref l) (upd H l (.lst ys))); rw [← c.K]; exact call_list_of
    exact pe_callTy e1 gl (c.free F (by decide +kernel)) (by decide +kernel) ha g3 g2 he hpl
  · have e1 : CallR C (.type "tuple") (rF g .tuple) := by show CallR C _ (fun xs H Q => ∃ p ys, xs = [.ref p] ∧ ((SqL g.K H p ys ∧ ∀ l, H l = none → Q (.ref l) (upd H l (.tup ys))) ∨ (SqT g.K H p ys ∧ Q (.ref p) H))); rw [← c.K]; exact call_tuple_of
    exact pe_callTy e1 gl (c.free F (by decide +kernel)) (by decide +kernel) ha g3 g2 he hpl
  · exact pe_callTy call_int1 gl (c.free F (by decide +kernel)) (by decide +kernel) ha g3 g2 he hpl
  · exact pe_callBfun cr_gcd gl (by rw [c.mg]; exact F.bf _ _ (of_decide_eq_true hm)) ha g2 he hpl
  · exact pe_callBfun cr_comb gl (by rw [c.mg]; exact F.bf _ _ (of_decide_eq_true hm)) ha g2 he hpl
  · exact pe_callTy call_str_int gl (c.free F (by decide +kernel)) (by decide +kernel) ha g3 g2 he hpl
theorem kind_ok {f : Blt} {k : Str} (h : kindName f = some k) : ∃ (tn : String) (kk : D → Option Bool), bltT f = isKind kk ∧ KOk tn kk ∧ bootBuiltins k = some (.type tn) ∧ k ∈ freeNames ∧ bltName f = "isinstance" ∧ k ≠ ("__name__" : Str) := by
  cases f <;> first
    | (cases h; done)
    | skip
  · cases h; exact ⟨"int", kInt, rfl, kok_int, by decide +kernel, by decide +kernel, rfl, by decide +kernel⟩
  · cases h; exact ⟨"bool", kBool, rfl, kok_bool, by decide +kernel, by decide +kernel, rfl, by decide +kernel⟩
  · cases h; exact ⟨"tuple", kTup, rfl, kok_tup, by decide +kernel, by decide +kernel, rfl, by decide +kernel⟩
  · cases h; exact ⟨"list", kLst, rfl, kok_lst, by decide +kernel, by decide +kernel, rfl, by decide +kernel⟩
  · cases h; exact ⟨"str", kStr, rfl, kok_str, by decide +kernel, by decide +kernel, rfl, by decide +kernel⟩
theorem pe_kind (c : CtxOk g ck sc W n C) (F : Facts g ck call n) {f : Blt} {k : Str} (hk : kindName f = some k) {x y : Str} (hx : x = bltName f) (hg : glB sc x = true) (hy : y = k) (hgy : glB sc y = true) {p pos p2 : Pos} {e : Expr} {t : TE} (he : PE C e t) (hp : plainE e = true) :
    ∃ (tn : String) (kk : D → Option Bool), bltT f = isKind kk ∧ KOk tn kk ∧ PE C (.Call (.Name x p) [e, .Name y p2] [] pos) (tCB (rIsi g.K) (tCons t (tCons (tC (.ty tn)) tNil))) := by
  obtain ⟨tn, kk, h1, h2, h3, h4, h5, h6⟩ := kind_ok hk
  refine ⟨tn, kk, h1, h2, ?_⟩
  rw [h5] at hx
  subst hx
  subst hy
  have e1 : CallR C (.builtin "isinstance") (rIsi g.K) := by rw [← c.K]; exact call_isi
  have hy : PE C (.Name y p2) (tC (.ty tn)) := pe_bltn (c.gl hgy) (c.free F h4) h3 rfl h6 (glB_ok hgy).2.1
  exact pe_callB e1 (c.gl hg) (c.free F (by decide +kernel)) (by decide +kernel) (pa_cons he (pa_cons hy pa_nil) (plain_star hp)) (glB_ok hg).2.2 (glB_ok hg).2.1 (plain_star hp) rfl
theorem pe_isx (c : CtxOk g ck sc W n C) (F : Facts g ck call n) {k : Nat} {x y : Str} (hx : x = "isinstance") (hg : glB sc x = true) (hy : (k, y) ∈ ck.exs) (hgy : glB sc y = true) {p pos p2 : Pos} {e : Expr} {t : TE} (he : PE C e t) (hp : plainE e = true) :
    PE C (.Call (.Name x p) [e, .Name y p2] [] pos) (tCB (fun xs H Q => rIsi g.K xs H Q ∨ rIsX g.K xs H Q) (tCons t (tCons (tC (.ref (g.cad k))) tNil))) := by
  subst hx
  have e1 : CallR C (.builtin "isinstance") (rIsi g.K) := by rw [← c.K]; exact call_isi
  have e2 : CallR C (.builtin "isinstance") (rIsX g.K) := by rw [← c.K]; exact call_isX
  have hy2 : PE C (.Name y p2) (tC (.ref (g.cad k))) := pe_glob (c.gl hgy) (by rw [c.mg]; exact (F.exs k y hy).mg) rfl (glB_ok hgy).2.1
  exact pe_callB (e1.or e2) (c.gl hg) (c.free F (by decide +kernel)) (by decide +kernel) (pa_cons he (pa_cons hy2 pa_nil) (plain_star hp)) (glB_ok hg).2.2 (glB_ok hg).2.1 (plain_star hp) rfl
theorem sim_isx {nx k : Nat} {y : Str} (F : ExsF g nx k y) {ta : TE} {e1 : Env → T D} (ha : SimE g W ta e1) : SimE g W (tCB (fun xs H Q => rIsi g.K xs H Q ∨ rIsX g.K xs H Q) (tCons ta (tCons (tC (.ref (g.cad k))) tNil))) fun r => e1 r >>= isxT nx k := by
  intro r Z σ H Q c a
  refine ha.first c a fun x vx Z1 H1 s1 r1 a1 => ?_
  unfold isxT at a1
  split at a1
  · rename_i cc
    split at a1
    · rename_i hc
      cases r1 with
      | exc hz => exact .inr ⟨_, _, _, _, rfl, s1.pre.zh _ _ hz, F.ec cc hc, F.ki cc hc, a1 _ Z1 H1 s1 rfl (.of (.bl _))⟩
    · exact a1.elim
  · cases r1
    exact .inl ⟨_, _, _, _, _, rfl, .own _, .base .non, F.kn, a1 _ Z1 H1 s1 rfl (.of (.bl _))⟩
  · exact a1.elim
theorem sim_caught {nx : Nat} {CS : Addr} {H0 : Hp} {f : Env → T D} (hT : g.T ≠ []) (hx : ∀ k, k < nx → PySem.W.exmOne g.K (.ref (g.cad k)) (.ref CS) = some true) (h0 : ∀ a ps, g.Hs a = some (.tbl ps) → ∃ ps', H0 a = some (.tbl ps'))
    {t : XK → TE} (ht : ∀ E : XK, SimE g (fun c H' => E (.ref (g.cad c)) none H') (t E) f) : SimE g W (tLamN H0 g.T (TKeep g.K CS) t) fun r => catchT nx (f r) := by
  intro r Z σ H Q cfg a
  refine ⟨g.gtb H cfg.pre.good, fun H1 eN nn hh tb => ?_⟩
  obtain ⟨st, eb⟩ := Step.lam hT cfg.pre eN tb nn fun a ps e => by obtain ⟨q, e1⟩ := h0 a ps e; exact hh a q e1
  refine ht _ r Z σ H1 _ (cfg.step st) ?_
  rw [eb]
  refine All.mono (catch_all a) (fun d q v Z' H' s e rr => q .non Z' H' (st.trans s) e (.of .non)) fun cc q Z' H' s e => ⟨rfl, hx cc q.1, fun ad hn => ?_⟩
  exact q.2 (.ref ad) (upd Z' ad (ExV (.ref (g.cad cc)) ad)) _ ((st.trans s).trans (.newZ s.pre hn fun _ z => by unfold ExV at z; cases z)) ((bud_upd s.pre (s.pre.nF hn)).trans e) (.of (.exc upd_same))
theorem pe_fn (c : CtxOk g ck sc W n C) (F : Facts g ck call n) {k m : Nat} {x : Str} (hf : (k, x, m) ∈ ck.fns) (hg : glB sc x = true) {p pos : Pos} {e : Expr} {es : List Expr} {t : TA} (ha : PA C (e :: es) t) (hp : (e :: es).all plainE = true) :
    PE C (.Call (.Name x p) (e :: es) [] pos) (tCall (spD g call k) [] (eW g W) t) := by
  obtain ⟨ad, fd, ps, h1, h2, h3, h4, h5⟩ := F.fn k x m hf
  have hp' := hp
  rw [List.all_cons, Bool.and_eq_true] at hp'
  have F' : FnOk C.prog C.w C.K C.mg C.base (L2.CX C.prog C.w) n ad fd ps (spD g call k) := by
    rw [c.prog, c.w, c.K, c.mg, c.base]
    exact h5
  exact pe_call (ds := []) F' c.room (c.gl hg) (by rw [c.mg]; exact h1) (by rw [c.K]; exact h2) (by rw [c.K]; exact h3) .nil (passes_call c.tk fun _ _ _ _ h => h) ha (glB_ok hg).2.1 (plain_star hp'.1) (plain_any hp'.2)
theorem permL_vals {vs : List V} {us : List Value} (r : Vals vs us) : ∀ {perm : List Nat} {ys : List V}, permL perm vs = some ys → ∃ zs, permL perm us = some zs ∧ Vals ys zs
  | [], ys, h => by cases h; exact ⟨[], rfl, .nil⟩
  | i :: is, ys, h => by
    unfold permL at h
    split at h
    · rename_i x ys h1 h2
      cases h
      obtain ⟨zs, k1, k2⟩ := permL_vals r (perm := is) h2
      obtain ⟨v, k3, k4⟩ := r.get h1
      refine ⟨v :: zs, ?_, .cons k4 k2⟩
      unfold permL
      rw [k3, k1]
    · cases h
theorem kw_some {pos : Pos} {env : PySem.Env} : ∀ {kws : List Keyword}, kwSome kws = true → (backToKw pos (keywordEach kws env)).all (·.1.isSome) = true ∧ (backToKw pos (keywordEach kws env)).any (·.1.isNone) = false ∧ (backToKw pos (keywordEach kws env)).filterMap (·.1) = kwNames kws
  | [], _ => ⟨rfl, rfl, rfl⟩
  | ⟨nm, e, kp⟩ :: kws, h => by
    unfold kwSome at h
    rw [List.all_cons, Bool.and_eq_true] at h
    obtain ⟨h1, h2⟩ := h
    obtain ⟨q1, q2, q3⟩ := kw_some (pos := pos) (env := env) (kws := kws) h2
    cases nm with
    | none => cases h1
    | some nm =>
      refine ⟨?_, ?_, ?_⟩
      · exact q1
      · exact q2
      · show nm :: (backToKw pos (keywordEach kws env)).filterMap (·.1) = nm :: kwNames kws
        rw [q3]
theorem pe_fnk (c : CtxOk g ck sc W n C) (F : Facts g ck call n) {k : Nat} {x : Str} {kws : List Keyword} {perm : List Nat} (hf : (k, x, kwNames kws, perm) ∈ ck.kws) (hg : glB sc x = true) (hs : kwSome kws = true) {p pos : Pos} {t : TA} (ha : PK C kws t) :
    PE C (.Call (.Name x p) [] kws pos) (tCallP (spD g call k) perm (eW g W) t) := by
  obtain ⟨⟨ad, fd, ps, h1, h2, h5, h6⟩, hl⟩ := F.kw k x _ perm hf
  have F' : FnOk C.prog C.w C.K C.mg C.base (L2.CX C.prog C.w) n ad fd ps (spD g call k) := by
    rw [c.prog, c.w, c.K, c.mg, c.base]
    exact h5
  have hx : Passes (L2.CX C.prog C.w) C (eW g W) := passes_call c.tk fun _ _ _ _ h => h
  obtain ⟨k1, k2, k3⟩ := kw_some (pos := pos) (env := C.env) hs
  refine ⟨fun pins s σ H Q I h => ?_⟩
  refine wpAny_Call_Name_kw (ld_glob I (c.gl hg) (by rw [c.mg]; exact h1) ?_ (glB_ok hg).2.1)
  refine PySem.W.callWith_KW0 (h₀ := C.base) I.ok.mod.kin (by rw [c.K]; exact h2) k1 ?_ (by rw [k2]; rfl)
  refine thn (ha.run pos pins s σ H _ I h) fun ws s2 ⟨zs, H2, I2, rz, ys, hy, q2⟩ => ⟨I2.kIn, ?_⟩
  rw [k3]
  unfold permD at hy
  split at hy
  · rename_i hlz
    obtain ⟨us, e1, e2⟩ := permL_vals rz hy
    have hl2 : us.length = ps.length := by rw [← e2.length]; exact F'.len _ _ _ _ q2
    have hw : BindsTo s2 fd ⟨[], (kwNames kws).zip ws⟩ (ps.zip us) := h6 s2 ws us (by rw [← c.K]; exact I2.kIn) (by rw [← rz.length, hlz, hl]) e1
    refine wpAny_call (codeAny_mono (F'.run C.A C.stack s2 H2 ⟨[], (kwNames kws).zip ws⟩ us ys Q _ c.room I2.env0 hw e2 q2) fun r s' hq => ?_)
    cases r with
    | error e => exact hx pins σ H2 s2 e s' I2 hq
    | ok fl =>
      cases fl with
      | ret u => exact I2.after hq
      | next => exact False.elim hq
      | brk => exact False.elim hq
      | cont => exact False.elim hq
  · cases hy
theorem pe_fnm (c : CtxOk g ck sc W n C) (F : Facts g ck call n) {k m : Nat} {x : Str} {kws : List Keyword} {perm : List Nat} {e : Expr} {es : List Expr} (hf : (k, x, m, kwNames kws, perm) ∈ ck.mws) (hg : glB sc x = true) (hs : kwSome kws = true) {p pos : Pos} {t tk : TA} (ha : PA C (e :: es) t) (hp : (e :: es).all plainE = true) (hk : PK C kws tk) :
    PE C (.Call (.Name x p) (e :: es) kws pos) (fun σ H Q => t σ H fun xs H1 => tk σ H1 fun zs H2 => ∃ ys, permM m perm xs zs = some ys ∧ spD g call k ys H2 Q (eW g W)) := by
  obtain ⟨⟨ad, fd, ps, h1, h2, h5, h6⟩, hl⟩ := F.mw k x _ _ perm hf
  have hp' := hp
  rw [List.all_cons, Bool.and_eq_true] at hp'
  have F' : FnOk C.prog C.w C.K C.mg C.base (L2.CX C.prog C.w) n ad fd ps (spD g call k) := by
    rw [c.prog, c.w, c.K, c.mg, c.base]
    exact h5
  have hx : Passes (L2.CX C.prog C.w) C (eW g W) := passes_call c.tk fun _ _ _ _ h => h
  obtain ⟨k1, k2, k3⟩ := kw_some (pos := pos) (env := C.env) hs
  refine ⟨fun pins s σ H Q I h => ?_⟩
  refine wpAny_Call_Name_kw (ld_glob I (c.gl hg) (by rw [c.mg]; exact h1) ?_ (glB_ok hg).2.1)
  refine PySem.W.callWith_KW (h₀ := C.base) I.ok.mod.kin (by rw [c.K]; exact h2) k1 ?_ (by rw [k2, plain_any hp]; rfl) (plain_star hp'.1)
  refine thn (ha.run pos pins s σ H _ I h) fun us s1 ⟨xs, H1, I1, rx, q1⟩ => ?_
  refine thn (hk.run pos pins s1 σ H1 _ I1 q1) fun ws s2 ⟨zs, H2, I2, rz, ys, hy, q2⟩ => ⟨I2.kIn, ?_⟩
  rw [k3]
  unfold permM permD at hy
  split at hy
  rename_i hml
  split at hy
  · rename_i hlz
    have rxz : Vals (xs ++ zs) (us ++ ws) := rx.append rz
    obtain ⟨vs, e1, e2⟩ := permL_vals rxz hy
    have hl2 : vs.length = ps.length := by rw [← e2.length]; exact F'.len _ _ _ _ q2
    have hul : us.length = m := by rw [← rx.length]; exact hml
    have hw : BindsTo s2 fd ⟨us, (kwNames kws).zip ws⟩ (ps.zip vs) := h6 s2 us ws vs (by rw [← c.K]; exact I2.kIn) hul (by have := rx.length; have := rz.length; rw [List.length_append] at hlz; omega) e1
    refine wpAny_call (codeAny_mono (F'.run C.A C.stack s2 H2 ⟨us, (kwNames kws).zip ws⟩ vs ys Q _ c.room I2.env0 hw e2 q2) fun r s' hq => ?_)
    cases r with
    | error e => exact hx pins σ H2 s2 e s' I2 hq
    | ok fl =>
      cases fl with
      | ret u => exact I2.after hq
      | next => exact False.elim hq
      | brk => exact False.elim hq
      | cont => exact False.elim hq
  · cases hy
  · cases hy
theorem op1_ok (c : CtxOk g ck sc W n C) {o : O1} {e ea : Expr} (h : op1P o e = some ea) {t : TE} {f : Env → T D} (ha : PE C ea t) (hs : SimE g W t f) : ∃ t', PE C e t' ∧ SimE g W t' fun r => f r >>= op1T o := by
  cases o
  unfold op1P at h
  split at h
  · split at h
    · rename_i hi
      cases h
      subst hi
      refine ⟨tRevA g.K t, ?_, sim_rev hs⟩
      rw [← c.K]
      exact pe_revA ha
    · cases h
  · cases h
theorem op1_test {o : O1} {e ea : Expr} (h : op1P o e = some ea) (env : PySem.Env) : ∀ whole, isTrue e env whole = (do let v ← whole; standAt e.pos; holding [v] (truthy v)) := by
  cases o
  unfold op1P at h
  split at h
  · exact fun _ => rfl
  · cases h
theorem visB_ok {i : Nat} {x : Str} (c : CtxOk g ck sc W n C) (h : visB ck sc i x = true) {p : Pos} : PE C (.Name x p) (tVar i) := by
  unfold visB at h
  simp only [Bool.and_eq_true, decide_eq_true_eq, Bool.not_eq_true'] at h
  obtain ⟨⟨⟨h1, h2⟩, h3⟩, h4⟩ := h
  refine pe_var (by rw [c.N]; exact h1) ?_ h3 h4
  show Vis C.env.scope x
  rw [c.sc]
  unfold Vis
  cases q : sc.names.lookup x with
  | none => rw [q] at h2; cases h2
  | some k =>
    rw [q] at h2
    cases k <;> first
      | (cases h2; done)
      | exact .inl rfl
      | exact .inr (.inl rfl)
      | exact .inr (.inr rfl)
theorem plainIx_ok {e : Expr} (h : plainIxB e = true) : PlainIx e := by
  intro o i
  cases e <;> first
    | rfl
    | exact (Bool.false_ne_true h).elim
theorem pt_of {e : Expr} {t : TE} (h : PE C e t) (he : ∀ whole, isTrue e C.env whole = (do let v ← whole; standAt e.pos; holding [v] (truthy v))) : PT C e (tTest t) := pt_val h he
theorem pg_nm (c : CtxOk g ck sc W n C) (F : Facts g ck call n) {f : Str → Bool} (hf : ∀ x, f x = true → C.fn x = true) {i : Nat} {e : Expr} (h : nmB ck sc f i e = true) : PG C e (gName i) := by
  cases e <;> first
    | exact (Bool.false_ne_true h).elim
    | skip
  rename_i x p
  unfold nmB at h
  simp only [Bool.and_eq_true, Bool.or_eq_true, decide_eq_true_eq] at h
  obtain ⟨h1, h2⟩ := h
  have hN : C.N.Nodup := by rw [c.N]; exact F.nd
  have hi : C.N[i]? = some x := by rw [c.N]; exact h1
  rcases h2 with h2 | ⟨h2, h3⟩
  · exact pg_name hN hi (.inl (by rw [c.sc]; exact h2)) (.inr (by rw [c.sc]; exact h2))
  · exact pg_name hN hi (.inr (by rw [c.sc]; exact h2)) (.inl (hf x h3))
theorem pgs_nms (c : CtxOk g ck sc W n C) (F : Facts g ck call n) {f : Str → Bool} (hf : ∀ x, f x = true → C.fn x = true) : ∀ {is : List Nat} {es : List Expr}, nmsB ck sc f is es = true →
    PGs C es (gNames is) ∧ (assignEach es C.env).length = is.length ∧ (assignEach es C.env).findIdx? (·.1) = none
  | [], [], _ => ⟨pgs_nil, rfl, rfl⟩
  | [], _ :: _, h => (Bool.false_ne_true h).elim
  | _ :: _, [], h => (Bool.false_ne_true h).elim
  | i :: is, e :: es, h => by
    unfold nmsB at h
    rw [Bool.and_eq_true] at h
    obtain ⟨h1, h2, h3⟩ := pgs_nms c F hf (is := is) (es := es) h.2
    have q := pg_nm c F hf h.1
    have h0 := h.1
    cases e with
    | Name x p =>
      have e1 : assignEach (.Name x p :: es) C.env = (false, assign (.Name x p) C.env) :: assignEach es C.env := by
        first | rfl | simp [assignEach]
      refine ⟨pgs_cons q h1 (by rw [e1]; rfl), by rw [e1]; exact congrArg Nat.succ h2, ?_⟩
      rw [e1, List.findIdx?_cons, h3]
      rfl
    | _ => exact (Bool.false_ne_true h0).elim
def tgR (g : G) : Tg → TG
  | .nm i => gName i
  | .tp is => gTup g.K is.length (gNames is)
theorem simG_tg : ∀ tg : Tg, SimG g tg (tgR g tg)
  | .nm _ => simG_nm
  | .tp _ => simG_tp
theorem pg_tg (c : CtxOk g ck sc W n C) (F : Facts g ck call n) {f : Str → Bool} (hf : ∀ x, f x = true → C.fn x = true) {tg : Tg} {e : Expr} (h : tgCell ck sc f tg e = true) : PG C e (tgR g tg) := by
  cases tg with
  | nm i => exact pg_nm c F hf h
  | tp is =>
    cases e <;> first
      | exact (Bool.false_ne_true h).elim
      | skip
    rename_i es k p
    obtain ⟨h1, h2, h4⟩ := pgs_nms c F hf (show nmsB ck sc f is es = true from h)
    show PG C (.Tuple es k p) (gTup g.K is.length (gNames is))
    rw [← c.K]
    exact pg_tup c.calm h1 h2 h4
end
end PV
end
section
set_option maxHeartbeats 1000000
/-! PvF: a row of lambdas, each of which raises what is due. -/
namespace PV
open PySem PySem.Spec PyProof.Rows L2 LamX
variable {g : GF} {ck : Ck} {sc : Scope} {W : Nat → Hp → Prop} {n : Nat} {C : Cx} {call : Nat → List D → T D}
theorem simE_can' {W : Nat → Hp → Prop} {f : Env → T D} : SimE g W (fun σ H Q => ∃ r Z, Cfg g r Z σ H ∧ (f r).All (Post g Z H Q) (PostE g Z H W) (g.bud H)) f := fun r Z _ _ _ c a => ⟨r, Z, c, a⟩
/-- the bodies are sound -/
def BodS (g : GF) (ck : Ck) (call : Nat → List D → T D) (n : Nat) (b : X) : Prop := ∀ (C : Cx) (sc : Scope) (W : Nat → Hp → Prop) (e : Expr), CtxOk g ck sc W n C → chkE ck b sc e = true → ∃ t, PE C e t ∧ SimE g W t (ev call b)
theorem noParams_ok' {params : Arguments} (h : noParams params = true) : params = ⟨[], [], none, [], [], none, []⟩ := by
  unfold noParams at h
  split at h
  · rfl
  · cases h
/-- a lambda of this frame as it is read -/
theorem lamT_of (c : CtxOk g ck sc W n C) {b : X} (hb : BodS g ck call n b) {params : Arguments} {body : Expr} {scope : Scope} (h : lamOkB ck sc b params body scope = true) :
    LamT C n params body scope fun E σ H Q => ∃ r Z, Cfg g r Z σ H ∧ ((evs call b).E r).All (Post g Z H Q) (PostE g Z H fun c H' => E (.ref (g.cad c)) none H') (g.bud H) := by
  unfold lamOkB at h
  simp only [Bool.and_eq_true, decide_eq_true_eq] at h
  obtain ⟨⟨⟨h5, h6⟩, h7⟩, h8⟩ := h
  have e5 := noParams_ok' h5
  subst e5
  refine ⟨by rw [c.sc]; exact lamS_by h6, rfl, fun _ _ _ _ _ => rfl, fun A outer s H E f c' hr => ?_⟩
  have c2 : CtxOk g ck scope (fun c H' => E (.ref (g.cad c)) none H') n (lamCx C A outer s H E scope f c') :=
    { prog := c.prog, w := c.w, K := c.K, mg := c.mg, base := c.base, N := c.N, lam := fun e => absurd e h7, sc := rfl, calm := rfl, room := hr
      tk := (takes_of (E := E) rfl rfl rfl rfl).imp fun cls d _ H h => by
        obtain ⟨c, rfl, rfl, h⟩ := h
        exact h }
  obtain ⟨t, q1, q2⟩ := hb _ _ _ _ c2 h8
  exact ⟨fun pins s σ H Q I ⟨r, Z, cf, a⟩ => q1.run pins s σ H Q I (q2 r Z σ H Q cf a)⟩
/-- one element of the row: the lambda raises what is due -/
theorem due_all {nx k : Nat} {b as : X} {r : Env} {P : Nat → D → Prop} {E : Nat → Nat → Prop} {m : Nat} (h : ((evs call (.cons (.must (.isx nx k (.caught nx b))) as)).A r >>= fun _ => T.ret (D.bl true)).All P E m) :
    ((evs call b).E r).All (fun _ _ => False) (fun m c => c < nx ∧ c = k ∧ ((evs call as).A r >>= fun _ => T.ret (D.bl true)).All P E m) m := by
  have h : ((((catchT nx ((evs call b).E r) >>= isxT nx k) >>= mustT) >>= fun x => fz x >>= fun x => (evs call as).A r >>= fun xs => T.ret (x :: xs)) >>= fun _ => T.ret (D.bl true)).All P E m := h
  rw [bind_assoc', bind_assoc', bind_assoc', all_bind] at h
  refine All.mono (catch_all h) (fun _ q => q.elim) fun c q => ⟨q.1, ?_⟩
  have q2 := q.2
  have e : isxT nx k (.exc c) = .ret (.bl (decide (c = k))) := if_pos q.1
  rw [e, ret_bind] at q2
  by_cases hk : c = k
  · rw [decide_eq_true hk] at q2
    refine ⟨hk, ?_⟩
    have q3 : (((evs call as).A r >>= fun xs => T.ret (D.bl true :: xs)) >>= fun _ => T.ret (D.bl true)).All P E _ := q2
    rw [bind_assoc'] at q3
    exact q3
  · rw [decide_eq_false hk] at q2
    exact q2.elim
theorem FnsOk.get {H : Hp} : ∀ {vs : List V} {ks : List X} {i : Nat} {v : V}, FnsOk g H vs ks → vs[i]? = some v → ∃ k, ks[i]? = some k ∧ Fn1 g H v k
  | _, _, _, _, .nil, e => by simp at e
  | _, _, 0, _, .cons f _, e => by simp at e; subst e; exact ⟨_, rfl, f⟩
  | _, _, i + 1, v, .cons _ t, e => by
    obtain ⟨k, h1, h2⟩ := FnsOk.get (i := i) (v := v) t (by simpa using e)
    exact ⟨k, by simpa using h1, h2⟩
theorem FnsOk.length {H : Hp} : ∀ {vs : List V} {ks : List X}, FnsOk g H vs ks → vs.length = ks.length
  | _, _, .nil => rfl
  | _, _, .cons _ t => congrArg Nat.succ (FnsOk.length t)
theorem dues_len {nx : Nat} {ids : List (Str × Nat)} : ∀ {ss : List Str} {ks : X} {bs : List X}, duesB nx ids ss ks = true → bods ks = some bs → ss.length = bs.length
  | [], ks, bs, h, e => by
    unfold duesB at h
    split at h
    · cases e; rfl
    · rename_i q; cases q
    · cases h
  | s :: ss, ks, bs, h, e => by
    unfold duesB at h
    split at h
    · rename_i q; cases q
    · rename_i s' ss' n k m b as q
      cases q
      simp only [Bool.and_eq_true] at h
      have e : (bods as).map (b :: ·) = some bs := e
      obtain ⟨bs', e1, rfl⟩ := Option.map_eq_some_iff.mp e
      exact congrArg Nat.succ (dues_len h.2 e1)
    · cases h
/-- the head of a row -/
theorem dues_cons {nx : Nat} {ids : List (Str × Nat)} {s : Str} {ss : List Str} {ks : X} (h : duesB nx ids (s :: ss) ks = true) : ∃ k b as, ks = .cons (.must (.isx nx k (.caught nx b))) as ∧ ids.lookup s = some k ∧ duesB nx ids ss as = true := by
  unfold duesB at h
  split at h
  · rename_i q; cases q
  · rename_i s' ss' n k m b as q
    cases q
    simp only [Bool.and_eq_true, decide_eq_true_eq] at h
    obtain ⟨⟨⟨rfl, rfl⟩, h3⟩, h4⟩ := h
    exact ⟨k, b, as, rfl, h3, h4⟩
  · cases h
theorem dues_nil {nx : Nat} {ids : List (Str × Nat)} {ks : X} (h : duesB nx ids [] ks = true) : ks = .nil := by
  unfold duesB at h
  split at h
  · rfl
  · rename_i q; cases q
  · cases h
theorem val4 {p1 p2 p3 p4 : Bool} {k1 k2 k3 k4 k : Nat} {x : Str} (h : ([(("pot" : Str), k1), (("left" : Str), k2), (("claims" : Str), k3), (("stretch" : Str), k4)] : List (Str × Nat)).lookup x = some k) (h1 : k1 = k → p1 = true) (h2 : k2 = k → p2 = true) (h3 : k3 = k → p3 = true) (h4 : k4 = k → p4 = true) :
    valV (mergeK [] [(Sum.inr ("pot" : Str), V.bl p1), (Sum.inr ("left" : Str), V.bl p2), (Sum.inr ("claims" : Str), V.bl p3), (Sum.inr ("stretch" : Str), V.bl p4)]) (Sum.inr x) = some (.bl true) := by
  have key : ∀ (y : Str) (j : Nat) (l : List (Str × Nat)), ((y, j) :: l).lookup x = some k → (x = y ∧ j = k) ∨ (x ≠ y ∧ l.lookup x = some k) := fun y j l h => by
    by_cases e : x = y
    · subst e
      rw [List.lookup_cons_self] at h
      exact .inl ⟨rfl, Option.some.inj h⟩
    · refine .inr ⟨e, ?_⟩
      rw [List.lookup_cons] at h
      have e2 : (x == y) = false := by rw [beq_eq_false_iff_ne]; exact e
      rw [e2] at h
      exact h
  rcases key _ _ _ h with ⟨rfl, e⟩ | ⟨_, h⟩
  · rw [h1 e]; rfl
  rcases key _ _ _ h with ⟨rfl, e⟩ | ⟨_, h⟩
  · rw [h2 e]; rfl
  rcases key _ _ _ h with ⟨rfl, e⟩ | ⟨_, h⟩
  · rw [h3 e]; rfl
  rcases key _ _ _ h with ⟨rfl, e⟩ | ⟨_, h⟩
  · rw [h4 e]; rfl
  · cases h
theorem first_run (c : CtxOk g ck sc W n C) (L : LamC g ck n C) (cau : CauF g ck.nx) {bg : List Stmt} (hb : IsFirst bg) {sg : Scope} (loc : ∀ x ∈ NF, sg.names.lookup x = some .local)
    (gl : ∀ x ∈ (["zip", "_law_caught", "isinstance", "BadPot", "BadLeft", "BadClaims", "BadStretch"] : List Str), sg.names.lookup x = some .globalImplicit) {k1 k2 k3 k4 : Nat}
    (x1 : ExsF g ck.nx k1 "BadPot") (x2 : ExsF g ck.nx k2 "BadLeft") (x3 : ExsF g ck.nx k3 "BadClaims") (x4 : ExsF g ck.nx k4 "BadStretch") (free : ∀ x ∈ freeNames, g.mg x = none) (Sg : FnScope NF ["works", "stages"] sg)
    {pins : List (Addr × Obj)} {σ : L2.St} {H : Hp} {s : Shared} (I : Inv C pins σ H s) {r : Env} {Z : Hp} (cfg : Cfg g r Z σ H) {ks : X} {ss : List Str} {bs : List X} (hbs : bods ks = some bs) (sound : ∀ b ∈ bs, BodS g ck call n b)
    {a b : Addr} {vs : List V} (ha : SqL C.K H a vs) (hza : Z a = some (.lst vs)) (fn : FnsOk g H vs bs) (hst : H b = some (.lst (ss.map V.str))) (nfb : ¬ g.F b) (dues : duesB ck.nx [(("pot" : Str), k1), (("left" : Str), k2), (("claims" : Str), k3), (("stretch" : Str), k4)] ss ks = true) {gy : Addr} {cdy : Value} {Q : VK}
    (tree : ((evs call ks).A r >>= fun _ => T.ret (D.bl true)).All (Post g Z H Q) (PostE g Z H W) (g.bud H))
    (hr : Room (n + 2) (C.A.deeper (envOfC "_law_pt_first_errors" sg s.heap.objs.size gy cdy))) :
    ∃ t, PSs (cxOf C8.CX0 C.prog C.w C.K C.mg C.base NF "_law_pt_first_errors" sg gy cdy C.A C.stack s H C8.E0) bg t ∧ t { nx := fun _ H' => Q .non H', rt := Q } (L2.start NF [.ref a, .ref b]) H := by
  obtain ⟨ad, CS, j, p1, p2, p3, p4, p5, p6, p7, p8, p9, p10, p11, p12, p13, p14, pg, sgc, dV, kV, doc, pm, cdv, ct, oc, an, od, osl, m1, m2, m3, m4, m5, m6, m7, m8, m9, m10, m11, m12⟩ := cau.ex
  have hu : (cxOf C8.CX0 C.prog C.w C.K C.mg C.base NF "_law_pt_first_errors" sg gy cdy C.A C.stack s H C8.E0).nox.A.units + 1 < cLine := by
    have := hr.units
    exact Nat.lt_of_le_of_lt (Nat.add_le_add_left (by decide : 1 ≤ 64) _) this
  have pvr : ∀ {i : Nat} {x : Str} {p : Pos}, NF[i]? = some x → x ∈ NF → (x == ("__debug__" : Str)) = false → (x == ("__classdict__" : Str)) = false → PE (cxOf C8.CX0 C.prog C.w C.K C.mg C.base NF "_law_pt_first_errors" sg gy cdy C.A C.stack s H C8.E0).nox (.Name x p) (tVar i) := fun h1 h2 h3 h4 => pe_var h1 (.inl (loc _ h2)) h3 h4
  have isx : ∀ {k : Nat} {y : Str} {p q1 q2 pos : Pos}, ExsF g ck.nx k y → sg.names.lookup y = some .globalImplicit → (y == ("__debug__" : Str)) = false → PE (cxOf C8.CX0 C.prog C.w C.K C.mg C.base NF "_law_pt_first_errors" sg gy cdy C.A C.stack s H C8.E0).nox (.Call (.Name "isinstance" p) [.Name "caught" q1, .Name y q2] [] pos) (tCB (rIsX C.K) (tCons (tVar 4) (tCons (tC (.ref (g.cad k))) tNil))) := fun {k y p q1 q2 pos} F h1 h2 =>
    pe_callB call_isX (gl _ (by decide +kernel)) (by show C.mg _ = none; rw [c.mg]; exact free _ (by decide +kernel)) (by decide +kernel) (pa_cons (pvr rfl (by decide +kernel) (by decide +kernel) (by decide +kernel)) (pa_cons (pe_glob h1 (by show C.mg _ = _; rw [c.mg]; exact F.mg) rfl h2) pa_nil)) (by decide +kernel) (by decide +kernel)
  cases hb
  refine ⟨_, PSs.nox (pss_cons (ps_for PassesOwn.never rfl (pi_zip (gl _ (by decide +kernel)) (by show C.mg _ = none; rw [c.mg]; exact free _ (by decide +kernel)) (pa_cons (pvr (i := 0) rfl (by decide +kernel) (by decide +kernel) (by decide +kernel)) (pa_cons (pvr (i := 1) rfl (by decide +kernel) (by decide +kernel) (by decide +kernel)) pa_nil)))
      (pg_tup rfl (pgs_cons (pg_name (i := 2) Sg.nd rfl (.inl (loc _ (by decide +kernel))) (.inr (loc _ (by decide +kernel)))) (pgs_cons (pg_name (i := 3) Sg.nd rfl (.inl (loc _ (by decide +kernel))) (.inr (loc _ (by decide +kernel)))) pgs_nil)))
      (pss_cons (ps_set (i := 4) Sg.nd rfl (.inl (loc _ (by decide +kernel))) (pe_caughtY (k := n) (j := j) I (pvr (i := 2) rfl (by decide +kernel) (by decide +kernel) (by decide +kernel)) (gl _ (by decide +kernel)) (by rw [c.mg]; exact m1) (by rw [c.K]; exact m2) (by rw [c.K]; exact m3) (by rw [c.K]; exact m4) (by rw [c.K]; exact m5) m6 m7 m8 (by rw [c.mg]; exact m11) m9 m10 hr) rfl (.inr (loc _ (by decide +kernel))))
      (pss_cons (ps_set (i := 5) Sg.nd rfl (.inl (loc _ (by decide +kernel))) (pe_disp (pps_cons pe_str (isx x1 (gl _ (by decide +kernel)) (by decide +kernel)) (pps_cons pe_str (isx x2 (gl _ (by decide +kernel)) (by decide +kernel)) (pps_cons pe_str (isx x3 (gl _ (by decide +kernel)) (by decide +kernel)) (pps_cons pe_str (isx x4 (gl _ (by decide +kernel)) (by decide +kernel)) pps_nil)))) (by rfl) (by rfl) (fun z => by cases z) (by show 4 ≤ 15; decide)) rfl (.inr (loc _ (by decide +kernel))))
      (pss_one (ps_if (pt_not (pt_of (pe_dget hu (pvr (i := 5) rfl (by decide +kernel) (by decide +kernel) (by decide +kernel)) (pvr (i := 3) rfl (by decide +kernel) (by decide +kernel) (by decide +kernel)) (fun _ _ => rfl)) fun _ => rfl)) (pss_one (ps_ret pe_bl)) pss_nil)))))
    (pss_one (ps_ret pe_bl))), ?_⟩
  have hl : vs.length = (ss.map V.str).length := by rw [List.length_map, FnsOk.length fn, dues_len dues hbs]
  refine ⟨.ref a, rfl, .ref b, rfl, a, b, vs, ss.map V.str, rfl, ha, .of hst, RZ.for_zipL hl
    (fun i σ' H' => ∃ (Z' : Hp) (as : X) (y2 y3 y4 y5 : Option V), Step g Z H Z' H' ∧ σ' = [some (.ref a), some (.ref b), y2, y3, y4, y5] ∧ bods as = some (bs.drop i) ∧
      duesB ck.nx [(("pot" : Str), k1), (("left" : Str), k2), (("claims" : Str), k3), (("stretch" : Str), k4)] (ss.drop i) as = true ∧ ((evs call as).A r >>= fun _ => T.ret (D.bl true)).All (Post g Z H Q) (PostE g Z H W) (g.bud H'))
    ⟨Z, ks, none, none, none, none, .refl cfg.pre, rfl, hbs, dues, tree⟩ (fun i σ' H' h => ?_) (fun i x y T σ' H' hx hy h hT => ?_) (fun σ' H' h => ?_)⟩
  · obtain ⟨Z', as, y2, y3, y4, y5, st, _⟩ := h
    exact ⟨.of (st.zh _ _ (st.z _ _ hza)), .of (st.h _ _ hst nfb)⟩
  · obtain ⟨Z', as, y2, y3, y4, y5, st, rfl, ebs, du, tr⟩ := h
    have hls : i < ss.length := by
      have := (List.getElem?_eq_some_iff.mp hx).1
      rw [hl, List.length_map] at this
      exact this
    rw [List.getElem?_map] at hy
    obtain ⟨s0, e0, rfl⟩ := Option.map_eq_some_iff.mp hy
    have eds : ss.drop i = s0 :: ss.drop (i + 1) := by
      rw [List.drop_eq_getElem_cons hls]
      congr 1
      exact (List.getElem?_eq_some_iff.mp e0).2
    rw [eds] at du
    obtain ⟨k, bb, as', rfl, lk, du'⟩ := dues_cons du
    have e1 : (bods as').map (bb :: ·) = some (bs.drop i) := ebs
    obtain ⟨bs', e2, e3⟩ := Option.map_eq_some_iff.mp e1
    obtain ⟨kb, kb1, f1⟩ := FnsOk.get fn hx
    have hlb : i < bs.length := (List.getElem?_eq_some_iff.mp kb1).1
    have e4 : bb :: bs' = kb :: bs.drop (i + 1) := by
      rw [e3, List.drop_eq_getElem_cons hlb, (List.getElem?_eq_some_iff.mp kb1).2]
    have e5 : bb = kb := (List.cons.inj e4).1
    have e6 : bs' = bs.drop (i + 1) := (List.cons.inj e4).2
    subst e5
    have snd := sound bb (List.mem_of_getElem? kb1)
    obtain ⟨f, c', params, body, scope, rfl, lkk, hf, hc'⟩ := f1
    have s1 : Step g Z' H' Z' (upd H' T (.tup [.ref f, .str s0])) := .newH st.pre hT
    have st1 := st.trans s1
    have ext := st1.exts cfg.pre
    have hf' : (upd H' T (.tup [.ref f, .str s0])) f = some (FnO (C.env.qual ++ "<lambda>") params body scope (cloFrom C.env.cells scope.names []) c' f) := by
      rw [L.q, L.cl]
      exact ext _ _ hf
    have hc2 : (upd H' T (.tup [.ref f, .str s0])) c' = some (CodeO c' (C.env.qual ++ "<lambda>")) := by
      rw [L.q]
      exact ext _ _ hc'
    have b1 : g.bud (upd H' T (.tup [.ref f, .str s0])) = g.bud H' := bud_upd st.pre (st.pre.nF hT)
    rw [← b1] at tr
    have da := due_all tr
    refine ⟨T, [.ref f, .str s0], rfl, .of upd_same, rfl, .ref f, [.str s0], rfl, .str s0, [], rfl, rfl, ?_⟩
    refine ⟨.ref f, rfl, f, c', params, body, scope, _, rfl, lamT_of c snd (by rw [← c.sc]; exact (L.lk _ _ _ _).mp lkk), hf', hc2, hf', r, Z', cfg.step st1, ?_⟩
    refine All.mono da (fun _ q => q.elim) fun cc q Z3 H3 s3 eb => ⟨rfl, by rw [c.K]; exact m12 cc q.1, fun ex hn => ?_⟩
    obtain ⟨q1, rfl, q3⟩ := q
    have s4 : Step g Z3 H3 Z3 (upd H3 ex (ExV (.ref (g.cad cc)) ex)) := .newH s3.pre hn fun _ z => by unfold ExV at z; cases z
    have b4 : g.bud (upd H3 ex (ExV (.ref (g.cad cc)) ex)) = g.bud H3 := bud_upd s3.pre (s3.pre.nF hn)
    refine fun p hp => ?_
    have hpe : ex ≠ p := fun z => by
      rw [← z, upd_same] at hp
      cases hp
    have hex : (upd (upd H3 ex (ExV (.ref (g.cad cc)) ex)) p (.dK [])) ex = some (ExV (.ref (g.cad cc)) ex) := by rw [upd_ne hpe, upd_same]
    have kit : ∀ {k : Nat} {y : Str}, ExsF g ck.nx k y → PySem.W.kitOne C.K (.ref (g.cad cc)) (.ref (g.cad k)) = some (decide (cc = k)) := fun F => by rw [c.K]; exact F.ki cc q1
    have ec : ExcC C.K (g.cad cc) := by rw [c.K]; exact x1.ec cc q1
    refine ⟨.ref ex, rfl, ex, g.cad cc, g.cad k1, decide (cc = k1), rfl, hex, ec, kit x1, ?_⟩
    refine ⟨.ref ex, rfl, ex, g.cad cc, g.cad k2, decide (cc = k2), rfl, hex, ec, kit x2, ?_⟩
    refine ⟨.ref ex, rfl, ex, g.cad cc, g.cad k3, decide (cc = k3), rfl, hex, ec, kit x3, ?_⟩
    refine ⟨.ref ex, rfl, ex, g.cad cc, g.cad k4, decide (cc = k4), rfl, hex, ec, kit x4, ?_⟩
    refine ⟨upd_same, [(Sum.inr ("pot" : Str), .bl (decide (cc = k1))), (Sum.inr ("left" : Str), .bl (decide (cc = k2))), (Sum.inr ("claims" : Str), .bl (decide (cc = k3))), (Sum.inr ("stretch" : Str), .bl (decide (cc = k4)))], rfl, by show 4 ≤ 15; decide, ?_⟩
    have dg := val4 (p1 := decide (cc = k1)) (p2 := decide (cc = k2)) (p3 := decide (cc = k3)) (p4 := decide (cc = k4)) lk (fun e => decide_eq_true e.symm) (fun e => decide_eq_true e.symm) (fun e => decide_eq_true e.symm) (fun e => decide_eq_true e.symm)
    refine ⟨.ref p, rfl, .str s0, rfl, p, .bl true, rfl, ?_, true, rfl, ?_⟩
    · rw [← dg]
      exact DGet.k (k := Sum.inr s0) upd_same
    · rw [upd_upd]
      have s5 : Step g Z3 (upd H3 ex (ExV (.ref (g.cad cc)) ex)) Z3 (upd (upd H3 ex (ExV (.ref (g.cad cc)) ex)) p (.dK (mergeK [] [(Sum.inr ("pot" : Str), .bl (decide (cc = k1))), (Sum.inr ("left" : Str), .bl (decide (cc = k2))), (Sum.inr ("claims" : Str), .bl (decide (cc = k3))), (Sum.inr ("stretch" : Str), .bl (decide (cc = k4)))]))) := .newH s4.pre hp
      have b5 := bud_upd (o := .dK (mergeK [] [(Sum.inr ("pot" : Str), V.bl (decide (cc = k1))), (Sum.inr ("left" : Str), .bl (decide (cc = k2))), (Sum.inr ("claims" : Str), .bl (decide (cc = k3))), (Sum.inr ("stretch" : Str), .bl (decide (cc = k4)))])) s4.pre (s4.pre.nF hp)
      refine ⟨Z3, as', _, _, _, _, ((st1.trans s3).trans s4).trans s5, rfl, by rw [e2, e6], du', ?_⟩
      rw [b5, b4, eb]
      exact q3
  · obtain ⟨Z', as, y2, y3, y4, y5, st, rfl, ebs, du, tr⟩ := h
    rw [hl, List.length_map, List.drop_length] at du
    have e := dues_nil du
    subst e
    exact tr _ Z' H' st rfl (.of (.bl true))
end PV
end
section
set_option maxHeartbeats 8000000
/-! PvS6: the theorem over all terms of expressions. -/
namespace PV
open PySem PySem.Spec PyProof.Rows L2
section
variable {g : GF} {ck : Ck} {n : Nat} {call : Nat → List D → T D}
abbrev SE (g : GF) (C : Cx) (W : Nat → Hp → Prop) (e : Expr) (f : Env → T D) : Prop := ∃ t, PE C e t ∧ SimE g W t f
abbrev SB (g : GF) (C : Cx) (W : Nat → Hp → Prop) (e : Expr) (f : Env → T Bool) : Prop := ∃ t, PT C e t ∧ SimB g W t f
abbrev SW (g : GF) (C : Cx) (W : Nat → Hp → Prop) (e : Expr) (f : Env → T Bool) : Prop := ∃ t, PW C e t ∧ SimB g W t f
abbrev SA (g : GF) (C : Cx) (W : Nat → Hp → Prop) (e : List Expr) (f : Env → T (List D)) : Prop := ∃ t, (PA C e t ∧ ∀ kws : List Keyword, kws.map (·.value) = e → PK C kws t) ∧ SimA g W t f
abbrev SR (g : GF) (C : Cx) (W : Nat → Hp → Prop) (e : List Expr) (f : Env → T (List D)) : Prop := ∃ t, PA C e t ∧ SimR g W t f
abbrev SO (g : GF) (C : Cx) (W : Nat → Hp → Prop) (e : Option Expr) (f : Env → T (Option Int)) : Prop := ∃ t, PO C e t ∧ SimO g W t f
abbrev SI (g : GF) (C : Cx) (W : Nat → Hp → Prop) (tg e : Expr) (f : Env → T (List D)) : Prop := ∃ t, PI C tg e t ∧ SimI g W t f
structure Snd (g : GF) (ck : Ck) (call : Nat → List D → T D) (n : Nat) (x : X) : Prop where
  E : ∀ (C : Cx) (sc : Scope) (W : Nat → Hp → Prop) (e : Expr), CtxOk g ck sc W n C → chkE ck x sc e = true → SE g C W e (ev call x)
  T : ∀ (C : Cx) (sc : Scope) (W : Nat → Hp → Prop) (e : Expr), CtxOk g ck sc W n C → chkT ck x sc e = true → SB g C W e (evT call x)
  W : ∀ (C : Cx) (sc : Scope) (W : Nat → Hp → Prop) (e : Expr), CtxOk g ck sc W n C → chkW ck x sc e = true → SW g C W e (evT call x)
  A : ∀ (C : Cx) (sc : Scope) (W : Nat → Hp → Prop) (e : List Expr), CtxOk g ck sc W n C → chkA ck x sc e = true → SA g C W e (evA call x)
  R : ∀ (C : Cx) (sc : Scope) (W : Nat → Hp → Prop) (e : List Expr), CtxOk g ck sc W n C → chkR ck x sc e = true → SR g C W e (evR call x)
  O : ∀ (C : Cx) (sc : Scope) (W : Nat → Hp → Prop) (e : Option Expr), CtxOk g ck sc W n C → chkO ck x sc e = true → SO g C W e (evO call x)
  I : ∀ (C : Cx) (sc : Scope) (W : Nat → Hp → Prop) (tg e : Expr), CtxOk g ck sc W n C → chkI ck x sc tg e = true → SI g C W tg e (evI call x)
theorem no {P : Prop} {b : Bool} (h : b = true) (e : b = false) : P := by rw [e] at h; cases h
section
variable {W : Nat → Hp → Prop} {C : Cx} {sc : Scope}
theorem SE.seq (c : CtxOk g ck sc W n C) {tg e : Expr} {f : Env → T D} (h : SE g C W e f) : SI g C W tg e fun r => f r >>= fun v => ofO (frozen v) := by
  obtain ⟨t, h1, h2⟩ := h
  have h3 : PI C tg e (iSeq g.K t) := by rw [← c.K]; exact pi_seq h1
  exact ⟨_, h3, simI_seq h2⟩
theorem SE.test {e : Expr} {f : Env → T D} (h : SE g C W e f) (he : ∀ whole, isTrue e C.env whole = (do let v ← whole; standAt e.pos; holding [v] (truthy v))) : SB g C W e fun r => f r >>= toB := by
  obtain ⟨t, h1, h2⟩ := h
  exact ⟨_, pt_of h1 he, sim_test h2⟩
theorem sim_yes : SimB g W tYes fun _ => .ret true := fun r Z σ H Q c a => a Z H (.refl c.pre) rfl
theorem notSet_ok {e : Expr} {env : PySem.Env} (h : notSetB e = true) : ∀ x, foldedSetIterable e env x = pure x := by
  intro x
  cases e <;> first
    | rfl
    | exact (Bool.false_ne_true h).elim
theorem tgIn_ok {own : List (Str × Nat)} {tg : Tg} (h : tgIn own tg = true) : ∀ i ∈ tg.slots, i ∈ own.map (·.2) := by
  intro i hi
  cases tg with
  | nm j =>
    cases List.mem_singleton.mp hi
    exact of_decide_eq_true h
  | tp is => exact of_decide_eq_true (List.all_eq_true.mp h i hi)
theorem CtxOk.blk (c : CtxOk g ck sc W n C) (s : Shared) (H : Hp) (scope : Scope) (A : Addr) (cl : List (Str × Addr)) (fp : List Addr) (hl : ck.lam ≠ some (relS scope sc)) : CtxOk g ck (relS scope sc) (fun _ _ => False) n (C.blk s H scope (compEnvC scope cl A C.env) fp) where
  lam := fun e => absurd e hl
  prog := c.prog
  w := c.w
  K := c.K
  mg := c.mg
  base := c.base
  N := c.N
  sc := by
    show relS scope C.env.scope = relS scope sc
    rw [c.sc]
  calm := c.calm
  room := c.room
  tk := takes0.imp fun _ _ _ _ ⟨_, _, _, h⟩ => h.elim
theorem se_call (c : CtxOk g ck sc W n C) (F : Facts g ck call n) {f : Nat} {as : X} (ih : Snd g ck call n as) {x : Str} {p pos : Pos} {e : Expr} {es : List Expr}
    (h : (glB sc x && decide ((f, x, (e :: es).length) ∈ ck.fns) && chkA ck as sc (e :: es) && (e :: es).all plainE) = true) : SE g C W (.Call (.Name x p) (e :: es) [] pos) (ev call (.call f as)) := by
  simp only [Bool.and_eq_true, decide_eq_true_eq] at h
  obtain ⟨⟨⟨h1, h2⟩, h3⟩, h4⟩ := h
  obtain ⟨t, q1, q2⟩ := ih.A C sc W _ c h3
  exact ⟨_, pe_fn c F h2 h1 q1.1 h4, sim_call q2⟩
theorem se_callK (c : CtxOk g ck sc W n C) (F : Facts g ck call n) {f : Nat} {perm : List Nat} {as : X} (ih : Snd g ck call n as) {x : Str} {p pos : Pos} {kws : List Keyword}
    (h : (glB sc x && decide ((f, x, kwNames kws, perm) ∈ ck.kws) && kwSome kws && chkA ck as sc (kws.map (·.value))) = true) : SE g C W (.Call (.Name x p) [] kws pos) (ev call (.callK f perm as)) := by
  simp only [Bool.and_eq_true, decide_eq_true_eq] at h
  obtain ⟨⟨⟨h1, h2⟩, h3⟩, h4⟩ := h
  obtain ⟨t, q1, q2⟩ := ih.A C sc W _ c h4
  exact ⟨_, pe_fnk c F h2 h1 h3 (q1.2 kws rfl), sim_callP q2⟩
end
theorem se_blt {W : Nat → Hp → Prop} {C : Cx} {sc : Scope} (c : CtxOk g ck sc W n C) (F : Facts g ck call n) {f : Blt} {as : X} (ihs : Snd g ck call n as) {x : Str} {p pos : Pos} {e : Expr} {es : List Expr}
    (h : (glB sc x && decide (x = bltName f) && decide (kindName f = none) && chkR ck as sc (e :: es) && (e :: es).all plainE && modB ck f) = true) : SE g C W (.Call (.Name x p) (e :: es) [] pos) fun r => (evs call as).R r >>= fun ds => bltT f ds := by
  simp only [Bool.and_eq_true, decide_eq_true_eq] at h
  obtain ⟨⟨⟨⟨⟨h1, h2⟩, h3⟩, h4⟩, h5⟩, h6⟩ := h
  obtain ⟨t, q1, q2⟩ := ihs.R C sc W _ c h4
  exact ⟨_, pe_blt c F h3 h2 h1 q1 h5 h6, sim_blt (rF_s h3) q2⟩
theorem se_isk {W : Nat → Hp → Prop} {C : Cx} {sc : Scope} (c : CtxOk g ck sc W n C) (F : Facts g ck call n) {f : Blt} {a : X} (iha : Snd g ck call n a) {x y : Str} {p pos p2 : Pos} {e : Expr}
    (h : (glB sc x && decide (x = bltName f) && glB sc y && decide (kindName f = some y) && chkE ck a sc e && plainE e) = true) : SE g C W (.Call (.Name x p) [e, .Name y p2] [] pos) fun r => (evs call a).E r >>= fun x => bltT f [x] := by
  simp only [Bool.and_eq_true, decide_eq_true_eq] at h
  obtain ⟨⟨⟨⟨⟨h1, h2⟩, h3⟩, h4⟩, h5⟩, h6⟩ := h
  obtain ⟨t, q1, q2⟩ := iha.E C sc W _ c h5
  obtain ⟨tn, kk, e1, e2, e3⟩ := pe_kind c F h4 h2 h1 rfl h3 (p := p) (pos := pos) (p2 := p2) q1 h6
  refine ⟨_, e3, ?_⟩
  rw [e1]
  exact sim_isk e2 q2
/-- a term of one kind alone -/
theorem ofE_snd {x : X} {f : Env → T D} (he : evs call x = ofE f) (hE : ∀ (C : Cx) (sc : Scope) (W : Nat → Hp → Prop) (e : Expr), CtxOk g ck sc W n C → chkE ck x sc e = true → SE g C W e f)
    (hT : ∀ (C : Cx) (sc : Scope) (e : Expr), chkT ck x sc e = true → chkE ck x sc e = true ∧ ((∀ whole, isTrue e C.env whole = (do let v ← whole; standAt e.pos; holding [v] (truthy v))) ∨ ∃ a o b p, e = .Compare a o b p))
    (hC : ∀ (C : Cx) (sc : Scope) (W : Nat → Hp → Prop) (a : Expr) (o : List CmpOp) (b : List Expr) (p : Pos), CtxOk g ck sc W n C → chkT ck x sc (.Compare a o b p) = true → SB g C W (.Compare a o b p) fun r => f r >>= toB)
    (hI : ∀ (sc : Scope) (tg e : Expr), chkI ck x sc tg e = true → chkE ck x sc e = true)
    (nW : ∀ sc e, chkW ck x sc e = false) (nA : ∀ sc e, chkA ck x sc e = false) (nR : ∀ sc e, chkR ck x sc e = false) (nO : ∀ sc e, chkO ck x sc e = false) : Snd g ck call n x where
  E := fun C sc W e c h => by
    have q := hE C sc W e c h
    have e1 : ev call x = f := by funext r; show (evs call x).E r = f r; rw [he]; rfl
    rw [e1]; exact q
  T := fun C sc W e c h => by
    have e1 : evT call x = fun r => f r >>= toB := by funext r; show (evs call x).B r = _; rw [he]; rfl
    rw [e1]
    obtain ⟨h1, h2⟩ := hT C sc e h
    rcases h2 with h2 | ⟨a, o, b, p, rfl⟩
    · exact (hE C sc W e c h1).test h2
    · exact hC C sc W a o b p c h
  W := fun C sc W e c h => no h (nW sc e)
  A := fun C sc W e c h => no h (nA sc e)
  R := fun C sc W e c h => no h (nR sc e)
  O := fun C sc W e c h => no h (nO sc e)
  I := fun C sc W tg e c h => by
    have e1 : evI call x = fun r => f r >>= fun v => ofO (frozen v) := by funext r; show (evs call x).I r = _; rw [he]; rfl
    rw [e1]
    exact (hE C sc W e c (hI sc tg e h)).seq c
theorem constE {x : X} {f : Env → T D} (he : evs call x = ofE f) (hE : ∀ (C : Cx) (sc : Scope) (W : Nat → Hp → Prop) (e : Expr), CtxOk g ck sc W n C → chkE ck x sc e = true → SE g C W e f)
    (nT : ∀ sc e, chkT ck x sc e = false) (nI : ∀ sc tg e, chkI ck x sc tg e = false)
    (nW : ∀ sc e, chkW ck x sc e = false) (nA : ∀ sc e, chkA ck x sc e = false) (nR : ∀ sc e, chkR ck x sc e = false) (nO : ∀ sc e, chkO ck x sc e = false) : Snd g ck call n x :=
  ofE_snd he hE (fun _ sc e h => no h (nT sc e)) (fun _ sc _ _ _ _ _ _ h => no h (nT sc _)) (fun sc tg e h => no h (nI sc tg e)) nW nA nR nO
theorem and_list {W : Nat → Hp → Prop} {C : Cx} {sc : Scope} {b : X} (ih : Snd g ck call n b) (c : CtxOk g ck sc W n C) {op : BoolOp} {eb : Expr} {es : List Expr} {pos : Pos}
    (h : (tailB es (chkE ck b sc eb) (chkE ck b sc (.BoolOp op (eb :: es) pos))) = true) : SE g C W (.BoolOp op (eb :: es) pos) (ev call b) := by
  cases es with
  | nil =>
    obtain ⟨t, h1, h2⟩ := ih.E C sc W eb c h
    exact ⟨t, pe_one h1, h2⟩
  | cons a as => exact ih.E C sc W _ c h
theorem andW_list {W : Nat → Hp → Prop} {C : Cx} {sc : Scope} {b : X} (ih : Snd g ck call n b) (c : CtxOk g ck sc W n C) {eb : Expr} {es : List Expr} {pos : Pos}
    (h : (tailB es (chkT ck b sc eb) (chkW ck b sc (.BoolOp .And (eb :: es) pos))) = true) : SW g C W (.BoolOp .And (eb :: es) pos) (evT call b) := by
  cases es with
  | nil =>
    obtain ⟨t, h1, h2⟩ := ih.T C sc W eb c h
    exact ⟨t, pw_and1 h1, h2⟩
  | cons a as => exact ih.W C sc W _ c h
theorem orW_list {W : Nat → Hp → Prop} {C : Cx} {sc : Scope} {b : X} (ih : Snd g ck call n b) (c : CtxOk g ck sc W n C) {eb : Expr} {es : List Expr} {pos : Pos}
    (h : (tailB es (chkT ck b sc eb) (chkW ck b sc (.BoolOp .Or (eb :: es) pos))) = true) : SW g C W (.BoolOp .Or (eb :: es) pos) (evT call b) := by
  cases es with
  | nil =>
    obtain ⟨t, h1, h2⟩ := ih.T C sc W eb c h
    exact ⟨t, pw_or1 h1, h2⟩
  | cons a as => exact ih.W C sc W _ c h
-- one reading for all blocks
def canE (g : GF) (W : Nat → Hp → Prop) (f : Env → T D) : TE := fun σ H Q => ∃ r Z, Cfg g r Z σ H ∧ (f r).All (Post g Z H Q) (PostE g Z H W) (g.bud H)
def canB (g : GF) (W : Nat → Hp → Prop) (f : Env → T Bool) : TT := fun σ H Q => ∃ r Z, Cfg g r Z σ H ∧ (f r).All (PostB g Z H Q) (PostE g Z H W) (g.bud H)
theorem SE.can {W : Nat → Hp → Prop} {C : Cx} {e : Expr} {f : Env → T D} (h : SE g C W e f) : PE C e (canE g W f) := by
  obtain ⟨t, h1, h2⟩ := h
  exact ⟨fun pins s σ H Q I ⟨r, Z, c, a⟩ => h1.run pins s σ H Q I (h2 r Z σ H Q c a)⟩
theorem SB.can {W : Nat → Hp → Prop} {C : Cx} {e : Expr} {f : Env → T Bool} (h : SB g C W e f) : PT C e (canB g W f) := by
  obtain ⟨t, h1, h2⟩ := h
  exact ⟨fun pins s σ H Q I ⟨r, Z, c, a⟩ => h1.run pins s σ H Q I (h2 r Z σ H Q c a)⟩
theorem simE_can {W : Nat → Hp → Prop} {f : Env → T D} : SimE g W (canE g W f) f := fun r Z σ H Q c a => ⟨r, Z, c, a⟩
theorem simB_can {W : Nat → Hp → Prop} {f : Env → T Bool} : SimB g W (canB g W f) f := fun r Z σ H Q c a => ⟨r, Z, c, a⟩
theorem tg_any {W : Nat → Hp → Prop} {C : Cx} {sc : Scope} (c : CtxOk g ck sc W n C) (F : Facts g ck call n) {scope : Scope} {tg : Tg} {e : Expr} (hl : ck.lam ≠ some (relS scope sc)) (h : tgCell ck (relS scope sc) (fun x => scope.names.lookup x == some .cell) tg e = true) :
    ∃ t, (∀ (s : Shared) (H : Hp) (A : Addr) (cl : List (Str × Addr)) (fp : List Addr), PG (C.blk s H scope (compEnvC scope cl A C.env) fp) e t) ∧ SimG g tg t :=
  ⟨_, fun s H A cl fp => pg_tg (c.blk s H scope A cl fp hl) F (fun _ h => h) h, simG_tg tg⟩
theorem E_any {W : Nat → Hp → Prop} {C : Cx} {sc : Scope} {x : X} (ih : Snd g ck call n x) (c : CtxOk g ck sc W n C) {scope : Scope} {e : Expr} (hl : ck.lam ≠ some (relS scope sc)) (h : chkE ck x (relS scope sc) e = true) :
    ∃ t, (∀ (s : Shared) (H : Hp) (A : Addr) (cl : List (Str × Addr)) (fp : List Addr), PE (C.blk s H scope (compEnvC scope cl A C.env) fp) e t) ∧ SimE g (fun _ _ => False) t (evs call x).E :=
  ⟨_, fun s H A cl fp => (ih.E _ _ _ _ (c.blk s H scope A cl fp hl) h).can, simE_can⟩
theorem B_any {W : Nat → Hp → Prop} {C : Cx} {sc : Scope} {x : X} (ih : Snd g ck call n x) (c : CtxOk g ck sc W n C) {scope : Scope} {e : Expr} (hl : ck.lam ≠ some (relS scope sc)) (h : chkT ck x (relS scope sc) e = true) :
    ∃ t, (∀ (s : Shared) (H : Hp) (A : Addr) (cl : List (Str × Addr)) (fp : List Addr), PT (C.blk s H scope (compEnvC scope cl A C.env) fp) e t) ∧ SimB g (fun _ _ => False) t (evs call x).B :=
  ⟨_, fun s H A cl fp => (ih.T _ _ _ _ (c.blk s H scope A cl fp hl) h).can, simB_can⟩
theorem noParams_ok {params : Arguments} (h : noParams params = true) : params = ⟨[], [], none, [], [], none, []⟩ := by
  unfold noParams at h
  split at h
  · rfl
  · cases h
theorem se_caught {W : Nat → Hp → Prop} {C : Cx} {sc : Scope} (c : CtxOk g ck sc W n C) (F : Facts g ck call n) {nx : Nat} {b : X} (ih : Snd g ck call n b) {x : Str} {p lpos pos : Pos} {params : Arguments} {body : Expr} {scope : Scope}
    (h : (decide (x = ("_law_caught" : Str)) && glB sc x && decide (ck.lam = some sc) && decide (ck.nx = nx) && noParams params && LamX.lamSB sc scope && decide (ck.lam ≠ some scope) && chkE ck b scope body) = true) :
    SE g C W (.Call (.Name x p) [.Lambda params body scope lpos] [] pos) fun r => catchT nx ((evs call b).E r) := by
  simp only [Bool.and_eq_true, decide_eq_true_eq] at h
  obtain ⟨⟨⟨⟨⟨⟨⟨h1, h2⟩, h3⟩, h4⟩, h5⟩, h6⟩, h7⟩, h8⟩ := h
  subst h1 h4
  have e5 := noParams_ok h5
  subst e5
  obtain ⟨ad, CS, k, p1, p2, p3, p4, p5, p6, p7, p8, p9, p10, p11, p12, p13, p14, pg, sg, dV, kV, doc, pm, cdv, ct, oc, an, od, osl, m1, m2, m3, m4, m5, m6, m7, m8, m9, m10, m11, m12⟩ := (F.cau (by rw [h3]; intro z; cases z)).ex
  have L := c.lam h3
  obtain ⟨cc, P, l1, l2, l3, l4⟩ := L.ex
  have hG : LamX.GivesTo C NC "_law_caught" sg ad cdv (caughtB p1 p2 p3 p4 p5 p6 p7 p8 p9 p10 p11 p12 p13 p14 k) "work" (C.env.qual ++ "<lambda>") (TKeep g.K CS) := by
    rw [← c.K]
    exact keep_gives m8 (by rw [c.mg]; exact m11) m9 m10
  have LS : LamX.LamS C.env.scope scope := by rw [c.sc]; exact LamX.lamS_by h6
  have nT : g.T ≠ [] := fun z => by rw [z] at l3; cases l3
  refine ⟨_, pe_lamN (t := fun E => canE g (fun c H' => E (.ref (g.cad c)) none H') (evs call b).E) (c.gl h2) (by rw [c.mg]; exact m1) (by rw [c.K]; exact m2) (by rw [c.K]; exact m3) (by rw [c.K]; exact m4) (by rw [c.K]; exact m5) m6 rfl m7 hG (by rw [c.base, c.mg]; exact l1) l2 l3 l4 (show Room (n + 2) C.A from L.room.mono (by omega)) LS rfl (fun _ _ _ _ _ => rfl)
    (fun A outer s H E f c' hr => ?_) (by decide +kernel) (by decide +kernel) (by decide +kernel), sim_caught nT m12 L.h0 fun E => simE_can⟩
  have c2 : CtxOk g ck scope (fun c H' => E (.ref (g.cad c)) none H') n (LamX.lamCx C A outer s H E scope f c') :=
    { prog := c.prog, w := c.w, K := c.K, mg := c.mg, base := c.base, N := c.N, lam := fun e => absurd e h7, sc := rfl, calm := rfl, room := hr
      tk := (takes_of (E := E) rfl rfl rfl rfl).imp fun cls d _ H h => by
        obtain ⟨c, rfl, rfl, h⟩ := h
        exact h }
  exact (ih.E _ _ _ _ c2 h8).can
theorem se_isx {W : Nat → Hp → Prop} {C : Cx} {sc : Scope} (c : CtxOk g ck sc W n C) (F : Facts g ck call n) {nx k : Nat} {a : X} (iha : Snd g ck call n a) {x y : Str} {p pos p2 : Pos} {e : Expr}
    (h : (glB sc x && decide (x = ("isinstance" : Str)) && glB sc y && decide ((k, y) ∈ ck.exs) && decide (ck.nx = nx) && chkE ck a sc e && plainE e) = true) : SE g C W (.Call (.Name x p) [e, .Name y p2] [] pos) fun r => (evs call a).E r >>= isxT nx k := by
  simp only [Bool.and_eq_true, decide_eq_true_eq] at h
  obtain ⟨⟨⟨⟨⟨⟨h1, h2⟩, h3⟩, h4⟩, h0⟩, h5⟩, h6⟩ := h
  obtain ⟨t, q1, q2⟩ := iha.E C sc W _ c h5
  subst h0
  exact ⟨_, pe_isx c F h2 h1 h4 h3 q1 h6, sim_isx (F.exs k y h4) q2⟩
theorem strs_of : ∀ {ss : List Str} {ds : List D}, strsL ss ds = true → ds = ss.map D.str
  | [], [], _ => rfl
  | x :: xs, .str y :: ds, h => by
    have h : (decide (x = y) && strsL xs ds) = true := h
    rw [Bool.and_eq_true, decide_eq_true_eq] at h
    rw [List.map_cons, h.1, strs_of h.2]
theorem reps_strs {Z : Hp} : ∀ {ss : List Str} {vs : List V}, Reps g Z vs (ss.map D.str) → vs = ss.map V.str
  | [], _, .nil => rfl
  | x :: xs, _, .cons (.str _) t => by rw [List.map_cons, reps_strs t]
theorem se_errs {W : Nat → Hp → Prop} {C : Cx} {sc : Scope} (c : CtxOk g ck sc W n C) (F : Facts g ck call n) {i tag : Nat} {ss : List Str} {ks st : X} {e : Expr} {x y : Str} {p p2 pos : Pos} (ihs : Snd g ck call n st) (ihb : ∀ b ∈ inner ks, Snd g ck call n b)
    (h : (decide (x = ("_law_pt_first_errors" : Str)) && glB sc x && decide (ck.lam = some sc) && visB ck sc i y && decide (ck.ltab.lookup tag = bods ks) && duesB ck.nx ck.dues ss ks && chkE ck st sc e && plainE e) = true) :
    SE g C W (.Call (.Name x p) [.Name y p2, e] [] pos) fun r => if fnsAt r i tag = true then (evs call st).E r >>= fun sd => if isStrs ss sd = true then (evs call ks).A r >>= fun _ => .ret (.bl true) else .bad else .bad := by
  simp only [Bool.and_eq_true, decide_eq_true_eq] at h
  obtain ⟨⟨⟨⟨⟨⟨⟨h1, h2⟩, h3⟩, h4⟩, h5⟩, h6⟩, h7⟩, h8⟩ := h
  subst h1
  have L := c.lam h3
  have cau := F.cau (by rw [h3]; intro z; cases z)
  obtain ⟨t, q1, q2⟩ := ihs.E C sc W e c h7
  refine ⟨_, ⟨fun pins s σ H Q I hh => ?_⟩, simE_can'⟩
  obtain ⟨r, Z, cfg, tr⟩ := hh
  by_cases fa : fnsAt r i tag = true
  · rw [if_pos fa] at tr
    obtain ⟨o, e1, sl⟩ : ∃ o, σ[i]? = some o ∧ SlotOk g Z H (.fns tag) o := by
      unfold fnsAt at fa
      split at fa
      · rename_i tg er
        have := of_decide_eq_true fa
        subst this
        exact cfg.slot i _ er
      · cases fa
    obtain ⟨a, vs, bs, rfl, hza, lvs, lt, fn⟩ := sl
    rw [L.lt] at lt
    have hbs : bods ks = some bs := by rw [← h5]; exact lt
    have lne : ck.ltab ≠ [] := fun z => by rw [z] at lt; cases lt
    obtain ⟨ad, bg, pg, sg, dV, kV, doc, pm, cdv, ct, oc, an, od, osl, k1, k2, k3, k4, m1, m2, m3, m4, m5, m6, m7, m8, m9, m10, x1, x2, x3, x4⟩ := (F.fir lne).ex
    rw [m10] at h6
    have inn : ∀ {ks : X} {bs : List X}, bods ks = some bs → ∀ b ∈ bs, b ∈ inner ks := by
      intro ks
      induction ks with
      | nil => intro bs e b hb; cases e; cases hb
      | cons a as iha ihs =>
        intro bs e b hb
        unfold bods at e
        split at e
        · rename_i q; cases q
        · rename_i n' k' m' b' as' q
          cases q
          obtain ⟨bs', e2, rfl⟩ := Option.map_eq_some_iff.mp e
          rcases List.mem_cons.mp hb with rfl | hb
          · exact List.mem_append_left _ (List.mem_singleton.mpr rfl)
          · exact List.mem_append_right _ (ihs e2 b hb)
        · cases e
      | _ => intro bs e b hb; cases e
    have ha : PA C [.Name y p2, e] (tCons (tVar i) (tCons t tNil)) := pa_cons (visB_ok c h4) (pa_cons q1 pa_nil (plain_star h8))
    refine wpAny_Call_Name_kw (ld_glob I (c.gl h2) (by rw [c.mg]; exact m1) ?_ (by decide +kernel))
    refine PySem.W.callWith_K (h₀ := C.base) I.ok.mod.kin (by rw [c.K]; exact m2) (thn (ha.run pos pins s σ H (fun ws H1 => ∃ b Z1, ws = [.ref a, .ref b] ∧ Step g Z H Z1 H1 ∧ H1 b = some (.lst (ss.map V.str)) ∧ ¬ g.F b ∧ ((evs call ks).A r >>= fun _ => T.ret (D.bl true)).All (Post g Z1 H1 Q) (PostE g Z1 H1 W) (g.bud H1)) I ?_) fun us s1 ⟨ws, H1, I1, rv, q⟩ => ⟨I1.kIn, ?_⟩) rfl (plain_any (es := [e]) (by rw [List.all_cons, h8]; rfl))
    · refine ⟨.ref a, e1, ?_⟩
      show t σ H _
      refine q2.first cfg tr fun d v Z1 H1 s1 rr tr1 => ?_
      split at tr1
      · rename_i is
        have key : ∀ {ds : List D}, seqL d = some ds → strsL ss ds = true → ∃ b, v = .ref b ∧ H1 b = some (.lst (ss.map V.str)) ∧ ¬ g.F b := fun {ds} e1 e2 => by
          obtain ⟨b, us, rfl, l1, l2, l3⟩ := rr.lst s1.pre e1
          rw [strs_of e2] at l3
          rw [reps_strs l3] at l1
          refine ⟨b, rfl, l1, fun z => ?_⟩
          cases d with
          | lst xs =>
            cases rr with
            | lst z1 _ _ => rw [s1.zf _ z] at z1; cases z1
          | new xs =>
            obtain ⟨a', us', e3, _, _, e4, _⟩ := rr
            cases e3
            exact e4 z
          | _ => cases is
        unfold isStrs at is
        split at is
        · obtain ⟨b, rfl, l1, l2⟩ := key rfl is
          exact ⟨b, Z1, rfl, s1, l1, l2, post_shift s1 tr1⟩
        · obtain ⟨b, rfl, l1, l2⟩ := key rfl is
          exact ⟨b, Z1, rfl, s1, l1, l2, post_shift s1 tr1⟩
        · cases is
      · exact tr1.elim
    · obtain ⟨b, Z1, rfl, st1, hb, nfb, tr1⟩ := q
      have fn1 := fn.ext (st1.exts cfg.pre)
      have run : codeAny (model C.prog C.w) C.A (.call (.ref ad) ⟨us, []⟩) (CR C8.CX0 C.stack C.prog C.w H1 s1 Q C8.E0) s1 := by
        refine LamX.run_ofS (N := NF) (us := us) (vs := [.ref a, .ref b]) (ps := ["works", "stages"]) (by rw [c.K]; exact m3) (by rw [c.K]; exact m4) m6 L.room I1.env0 (by rw [← c.K] at m5; have z := m5 s1 us I1.kIn (by rw [List.append_nil, ← rv.length]; rfl); rw [List.append_nil] at z; exact z) rv rfl fun hr2 => ?_
        exact first_run c L cau m7 m8 m9 x1 x2 x3 x4 F.free m6 I1 (cfg.step st1) hbs (fun b hb => (ihb b (inn hbs b hb)).E) (.of (st1.zh _ _ (st1.z _ _ hza))) (st1.z _ _ hza) fn1 hb nfb h6 tr1 hr2
      refine wpAny_call (codeAny_mono run fun r s2 hq => ?_)
      cases r with
      | error e => exact (show False from hq).elim
      | ok fl =>
        cases fl with
        | ret u => exact I1.after hq
        | next => exact hq.elim
        | brk => exact hq.elim
        | cont => exact hq.elim
  · rw [if_neg fa] at tr
    exact tr.elim
theorem sound (F : Facts g ck call n) (x : X) : Snd g ck call n x := by
  induction x using X.recIn with
  | non =>
    refine constE rfl (fun C sc W e c h => ?_) (fun _ _ => rfl) (fun _ _ _ => rfl) (fun _ _ => rfl) (fun _ _ => rfl) (fun _ _ => rfl) (fun _ _ => rfl)
    cases e with
    | Constant k j p => cases k with
      | none => exact ⟨_, pe_non, sim_c fun _ => .non⟩
      | _ => exact (Bool.false_ne_true h).elim
    | _ => exact (Bool.false_ne_true h).elim
  | bl b =>
    refine constE rfl (fun C sc W e c h => ?_) (fun _ _ => rfl) (fun _ _ _ => rfl) (fun _ _ => rfl) (fun _ _ => rfl) (fun _ _ => rfl) (fun _ _ => rfl)
    cases e with
    | Constant k j p => cases k with
      | bool c =>
        cases (beq_iff_eq.mp (show (b == c) = true from h))
        exact ⟨_, pe_bl, sim_c fun _ => .bl b⟩
      | _ => exact (Bool.false_ne_true h).elim
    | _ => exact (Bool.false_ne_true h).elim
  | int b =>
    refine constE rfl (fun C sc W e c h => ?_) (fun _ _ => rfl) (fun _ _ _ => rfl) (fun _ _ => rfl) (fun _ _ => rfl) (fun _ _ => rfl) (fun _ _ => rfl)
    cases e with
    | Constant k j p => cases k with
      | int c =>
        cases (beq_iff_eq.mp (show (b == c) = true from h))
        exact ⟨_, pe_int, sim_c fun _ => .int b⟩
      | _ => exact (Bool.false_ne_true h).elim
    | _ => exact (Bool.false_ne_true h).elim
  | str b =>
    refine constE rfl (fun C sc W e c h => ?_) (fun _ _ => rfl) (fun _ _ _ => rfl) (fun _ _ => rfl) (fun _ _ => rfl) (fun _ _ => rfl) (fun _ _ => rfl)
    cases e with
    | Constant k j p => cases k with
      | str c =>
        cases (of_decide_eq_true (show decide (b = c) = true from h))
        exact ⟨_, pe_str, sim_c fun _ => .str b⟩
      | _ => exact (Bool.false_ne_true h).elim
    | _ => exact (Bool.false_ne_true h).elim
  | var i =>
    have key : ∀ (C : Cx) (sc : Scope) (W : Nat → Hp → Prop) (e : Expr), CtxOk g ck sc W n C → chkE ck (.var i) sc e = true → SE g C W e fun r => getV r i := fun C sc W e c h => by
      cases e with
      | Name x p => exact ⟨_, visB_ok c h, sim_var⟩
      | _ => exact (Bool.false_ne_true h).elim
    refine ofE_snd rfl key (fun C sc e h => ?_) (fun _ _ _ _ _ _ _ _ h => (Bool.false_ne_true h).elim) (fun sc tg e h => ?_) (fun _ _ => rfl) (fun _ _ => rfl) (fun _ _ => rfl) (fun _ _ => rfl)
    · cases e with
      | Name x p => exact ⟨h, .inl fun _ => rfl⟩
      | _ => exact (Bool.false_ne_true h).elim
    · cases e with
      | Name x p => exact h
      | _ => exact (Bool.false_ne_true h).elim
  | con y i =>
    refine constE rfl (fun C sc W e c h => ?_) (fun _ _ => rfl) (fun _ _ _ => rfl) (fun _ _ => rfl) (fun _ _ => rfl) (fun _ _ => rfl) (fun _ _ => rfl)
    cases e with
    | Name x p =>
      have h : (decide (x = y) && glB sc x && decide ((x, i) ∈ ck.cons)) = true := h
      simp only [Bool.and_eq_true, decide_eq_true_eq] at h
      obtain ⟨⟨_, h1⟩, h2⟩ := h
      obtain ⟨t, ht⟩ := F.con x i h2
      exact ⟨_, pe_glob (v := .int i) (c.gl h1) (by rw [c.mg]; exact ht) ⟨t, rfl⟩ (glB_ok h1).2.1, sim_c fun _ => .int i⟩
    | _ => exact (Bool.false_ne_true h).elim
  | bin op a b iha ihb =>
    refine constE rfl (fun C sc W e c h => ?_) (fun _ _ => rfl) (fun _ _ _ => rfl) (fun _ _ => rfl) (fun _ _ => rfl) (fun _ _ => rfl) (fun _ _ => rfl)
    cases e with
    | BinOp ea o eb p =>
      have h : (bopB op o && chkE ck a sc ea && chkE ck b sc eb) = true := h
      simp only [Bool.and_eq_true] at h
      obtain ⟨⟨h0, h1⟩, h2⟩ := h
      obtain ⟨ta, q1, q2⟩ := iha.E C sc W _ c h1
      obtain ⟨tb, k1, k2⟩ := ihb.E C sc W _ c h2
      exact ⟨_, pe_op (rB_o c h0) q1 k1, sim_op (rB_s op) q2 k2⟩
    | _ => exact (Bool.false_ne_true h).elim
  | neg a iha =>
    refine constE rfl (fun C sc W e c h => ?_) (fun _ _ => rfl) (fun _ _ _ => rfl) (fun _ _ => rfl) (fun _ _ => rfl) (fun _ _ => rfl) (fun _ _ => rfl)
    cases e with
    | UnaryOp o ea p => cases o with
      | USub =>
        obtain ⟨ta, q1, q2⟩ := iha.E C sc W _ c h
        exact ⟨_, pe_un un_neg q1, sim_neg q2⟩
      | _ => exact (Bool.false_ne_true h).elim
    | _ => exact (Bool.false_ne_true h).elim
  | cmp op a b iha ihb =>
    have inv : ∀ {sc : Scope} {e : Expr}, chkE ck (.cmp op a b) sc e = true → ∃ ea o eb p, e = .Compare ea [o] [eb] p ∧ copB op o = true ∧ chkE ck a sc ea = true ∧ chkE ck b sc eb = true ∧ behindInMarks o eb = false := fun {sc e} h => by
      cases e with
      | Compare ea os es p =>
        match os, es, h with
        | [o], [eb], h =>
          have h : (copB op o && chkE ck a sc ea && chkE ck b sc eb && !(behindInMarks o eb)) = true := h
          simp only [Bool.and_eq_true, Bool.not_eq_true'] at h
          exact ⟨ea, o, eb, p, rfl, h.1.1.1, h.1.1.2, h.1.2, h.2⟩
        | [], _, h => exact (Bool.false_ne_true h).elim
        | [_], [], h => exact (Bool.false_ne_true h).elim
        | [_], _ :: _ :: _, h => exact (Bool.false_ne_true h).elim
        | _ :: _ :: _, _, h => exact (Bool.false_ne_true h).elim
      | _ => exact (Bool.false_ne_true h).elim
    have same : ∀ sc e, chkT ck (.cmp op a b) sc e = true → chkE ck (.cmp op a b) sc e = true := fun sc e h => by
      cases e with
      | Compare ea os es p =>
        match os, es, h with
        | [o], [eb], h => exact h
        | [], _, h => exact (Bool.false_ne_true h).elim
        | [_], [], h => exact (Bool.false_ne_true h).elim
        | [_], _ :: _ :: _, h => exact (Bool.false_ne_true h).elim
        | _ :: _ :: _, _, h => exact (Bool.false_ne_true h).elim
      | _ => exact (Bool.false_ne_true h).elim
    refine ofE_snd rfl (fun C sc W e c h => ?_) (fun C sc e h => ?_) (fun C sc W ea os es p c h => ?_) (fun _ _ _ h => (Bool.false_ne_true h).elim) (fun _ _ => rfl) (fun _ _ => rfl) (fun _ _ => rfl) (fun _ _ => rfl)
    · obtain ⟨ea, o, eb, p, rfl, h0, h1, h2, h3⟩ := inv h
      obtain ⟨ta, q1, q2⟩ := iha.E C sc W _ c h1
      obtain ⟨tb, k1, k2⟩ := ihb.E C sc W _ c h2
      exact ⟨_, pe_cmpR (rC_o c h0) q1 k1 h3, sim_cmp (rC_s op) q2 k2⟩
    · have h' := same sc e h
      obtain ⟨ea, o, eb, p, rfl, _⟩ := inv h'
      exact ⟨h', .inr ⟨_, _, _, _, rfl⟩⟩
    · obtain ⟨ea, o, eb, p, e, h0, h1, h2, h3⟩ := inv (same sc _ h)
      rw [e]
      obtain ⟨ta, q1, q2⟩ := iha.E C sc W _ c h1
      obtain ⟨tb, k1, k2⟩ := ihb.E C sc W _ c h2
      exact ⟨_, pt_cmpR (rC_o c h0) q1 k1 h3, sim_test (sim_cmp (rC_s op) q2 k2)⟩
  | chain op oq a b cc iha ihb ihc =>
    have inv : ∀ {sc : Scope} {e : Expr}, chkE ck (.chain op oq a b cc) sc e = true → ∃ ea o q eb ec p, e = .Compare ea [o, q] [eb, ec] p ∧ copB op o = true ∧ copB oq q = true ∧ chkE ck a sc ea = true ∧ chkE ck b sc eb = true ∧ chkE ck cc sc ec = true ∧ lastMarks [o, q] [eb, ec] = false := fun {sc e} h => by
      cases e with
      | Compare ea os es p =>
        match os, es, h with
        | [o, q], [eb, ec], h =>
          have h : (copB op o && copB oq q && chkE ck a sc ea && chkE ck b sc eb && chkE ck cc sc ec && !(lastMarks [o, q] [eb, ec])) = true := h
          simp only [Bool.and_eq_true, Bool.not_eq_true'] at h
          exact ⟨ea, o, q, eb, ec, p, rfl, h.1.1.1.1.1, h.1.1.1.1.2, h.1.1.1.2, h.1.1.2, h.1.2, h.2⟩
        | [], _, h => exact (Bool.false_ne_true h).elim
        | [_], _, h => exact (Bool.false_ne_true h).elim
        | [_, _], [], h => exact (Bool.false_ne_true h).elim
        | [_, _], [_], h => exact (Bool.false_ne_true h).elim
        | [_, _], _ :: _ :: _ :: _, h => exact (Bool.false_ne_true h).elim
        | _ :: _ :: _ :: _, _, h => exact (Bool.false_ne_true h).elim
      | _ => exact (Bool.false_ne_true h).elim
    have same : ∀ sc e, chkT ck (.chain op oq a b cc) sc e = true → chkE ck (.chain op oq a b cc) sc e = true := fun sc e h => by
      cases e with
      | Compare ea os es p =>
        match os, es, h with
        | [o, q], [eb, ec], h => exact h
        | [], _, h => exact (Bool.false_ne_true h).elim
        | [_], _, h => exact (Bool.false_ne_true h).elim
        | [_, _], [], h => exact (Bool.false_ne_true h).elim
        | [_, _], [_], h => exact (Bool.false_ne_true h).elim
        | [_, _], _ :: _ :: _ :: _, h => exact (Bool.false_ne_true h).elim
        | _ :: _ :: _ :: _, _, h => exact (Bool.false_ne_true h).elim
      | _ => exact (Bool.false_ne_true h).elim
    refine ofE_snd rfl (fun C sc W e c h => ?_) (fun C sc e h => ?_) (fun C sc W ea os es p c h => ?_) (fun _ _ _ h => (Bool.false_ne_true h).elim) (fun _ _ => rfl) (fun _ _ => rfl) (fun _ _ => rfl) (fun _ _ => rfl)
    · obtain ⟨ea, o, q, eb, ec, p, rfl, h0, h0', h1, h2, h3, h4⟩ := inv h
      obtain ⟨ta, q1, q2⟩ := iha.E C sc W _ c h1
      obtain ⟨tb, k1, k2⟩ := ihb.E C sc W _ c h2
      obtain ⟨tc, j1, j2⟩ := ihc.E C sc W _ c h3
      exact ⟨_, pe_chain (rC_o c h0) (rC_o c h0') q1 k1 j1 h4, sim_chain (rC_s op) (rC_s oq) q2 k2 j2⟩
    · have h' := same sc e h
      obtain ⟨ea, o, q, eb, ec, p, rfl, _⟩ := inv h'
      exact ⟨h', .inr ⟨_, _, _, _, rfl⟩⟩
    · obtain ⟨ea, o, q, eb, ec, p, e, h0, h0', h1, h2, h3, h4⟩ := inv (same sc _ h)
      rw [e]
      obtain ⟨ta, q1, q2⟩ := iha.E C sc W _ c h1
      obtain ⟨tb, k1, k2⟩ := ihb.E C sc W _ c h2
      obtain ⟨tc, j1, j2⟩ := ihc.E C sc W _ c h3
      exact ⟨_, pt_chain (rC_o c h0) (rC_o c h0') q1 k1 j1 h4, sim_test (sim_chain (rC_s op) (rC_s oq) q2 k2 j2)⟩
  | chain3 op oq ou a b cc dd iha ihb ihc ihd =>
    have inv : ∀ {sc : Scope} {e : Expr}, chkE ck (.chain3 op oq ou a b cc dd) sc e = true → ∃ ea o q u eb ec ed p, e = .Compare ea [o, q, u] [eb, ec, ed] p ∧ copB op o = true ∧ copB oq q = true ∧ copB ou u = true ∧ chkE ck a sc ea = true ∧ chkE ck b sc eb = true ∧ chkE ck cc sc ec = true ∧ chkE ck dd sc ed = true ∧ lastMarks [o, q, u] [eb, ec, ed] = false := fun {sc e} h => by
      cases e with
      | Compare ea os es p =>
        match os, es, h with
        | [o, q, u], [eb, ec, ed], h =>
          have h : (copB op o && copB oq q && copB ou u && chkE ck a sc ea && chkE ck b sc eb && chkE ck cc sc ec && chkE ck dd sc ed && !(lastMarks [o, q, u] [eb, ec, ed])) = true := h
          simp only [Bool.and_eq_true, Bool.not_eq_true'] at h
          obtain ⟨⟨⟨⟨⟨⟨⟨h1, h2⟩, h3⟩, h4⟩, h5⟩, h6⟩, h7⟩, h8⟩ := h
          exact ⟨ea, o, q, u, eb, ec, ed, p, rfl, h1, h2, h3, h4, h5, h6, h7, h8⟩
        | [], _, h => exact (Bool.false_ne_true h).elim
        | [_], _, h => exact (Bool.false_ne_true h).elim
        | [_, _], _, h => exact (Bool.false_ne_true h).elim
        | [_, _, _], [], h => exact (Bool.false_ne_true h).elim
        | [_, _, _], [_], h => exact (Bool.false_ne_true h).elim
        | [_, _, _], [_, _], h => exact (Bool.false_ne_true h).elim
        | [_, _, _], _ :: _ :: _ :: _ :: _, h => exact (Bool.false_ne_true h).elim
        | _ :: _ :: _ :: _ :: _, _, h => exact (Bool.false_ne_true h).elim
      | _ => exact (Bool.false_ne_true h).elim
    have same : ∀ sc e, chkT ck (.chain3 op oq ou a b cc dd) sc e = true → chkE ck (.chain3 op oq ou a b cc dd) sc e = true := fun sc e h => by
      cases e with
      | Compare ea os es p =>
        match os, es, h with
        | [o, q, u], [eb, ec, ed], h => exact h
        | [], _, h => exact (Bool.false_ne_true h).elim
        | [_], _, h => exact (Bool.false_ne_true h).elim
        | [_, _], _, h => exact (Bool.false_ne_true h).elim
        | [_, _, _], [], h => exact (Bool.false_ne_true h).elim
        | [_, _, _], [_], h => exact (Bool.false_ne_true h).elim
        | [_, _, _], [_, _], h => exact (Bool.false_ne_true h).elim
        | [_, _, _], _ :: _ :: _ :: _ :: _, h => exact (Bool.false_ne_true h).elim
        | _ :: _ :: _ :: _ :: _, _, h => exact (Bool.false_ne_true h).elim
      | _ => exact (Bool.false_ne_true h).elim
    refine ofE_snd rfl (fun C sc W e c h => ?_) (fun C sc e h => ?_) (fun C sc W ea os es p c h => ?_) (fun _ _ _ h => (Bool.false_ne_true h).elim) (fun _ _ => rfl) (fun _ _ => rfl) (fun _ _ => rfl) (fun _ _ => rfl)
    · obtain ⟨ea, o, q, u, eb, ec, ed, p, rfl, h0, h0', h0'', h1, h2, h3, h4, h5⟩ := inv h
      obtain ⟨ta, q1, q2⟩ := iha.E C sc W _ c h1
      obtain ⟨tb, k1, k2⟩ := ihb.E C sc W _ c h2
      obtain ⟨tc, j1, j2⟩ := ihc.E C sc W _ c h3
      obtain ⟨td, l1, l2⟩ := ihd.E C sc W _ c h4
      exact ⟨_, pe_chain3 (rC_o c h0) (rC_o c h0') (rC_o c h0'') q1 k1 j1 l1 h5, sim_chain3 (rC_s op) (rC_s oq) (rC_s ou) q2 k2 j2 l2⟩
    · have h' := same sc e h
      obtain ⟨ea, o, q, u, eb, ec, ed, p, rfl, _⟩ := inv h'
      exact ⟨h', .inr ⟨_, _, _, _, rfl⟩⟩
    · obtain ⟨ea, o, q, u, eb, ec, ed, p, e, h0, h0', h0'', h1, h2, h3, h4, h5⟩ := inv (same sc _ h)
      rw [e]
      obtain ⟨ta, q1, q2⟩ := iha.E C sc W _ c h1
      obtain ⟨tb, k1, k2⟩ := ihb.E C sc W _ c h2
      obtain ⟨tc, j1, j2⟩ := ihc.E C sc W _ c h3
      obtain ⟨td, l1, l2⟩ := ihd.E C sc W _ c h4
      exact ⟨_, pt_chain3 (rC_o c h0) (rC_o c h0') (rC_o c h0'') q1 k1 j1 l1 h5, sim_test (sim_chain3 (rC_s op) (rC_s oq) (rC_s ou) q2 k2 j2 l2)⟩
  | lrng a b iha ihb =>
    refine constE rfl (fun C sc W e c h => ?_) (fun _ _ => rfl) (fun _ _ _ => rfl) (fun _ _ => rfl) (fun _ _ => rfl) (fun _ _ => rfl) (fun _ _ => rfl)
    obtain ⟨x, px, y, py, ea, eb, p1, p2, rfl, hh⟩ : ∃ x px y py ea eb p1 p2, e = .Call (.Name x px) [.Call (.Name y py) [ea, eb] [] p1] [] p2 ∧ (decide (x = ("list" : Str)) && decide (y = ("range" : Str)) && glB sc x && glB sc y && chkE ck a sc ea && chkE ck b sc eb && plainE ea && plainE eb) = true := by
      cases e with
      | Call f es kws p2 =>
        cases f with
        | Name x px =>
          match es, kws, h with
          | [.Call (.Name y py) [ea, eb] [] p1], [], h => exact ⟨x, px, y, py, ea, eb, p1, p2, rfl, h⟩
        | _ => exact (Bool.false_ne_true h).elim
      | _ => exact (Bool.false_ne_true h).elim
    simp only [Bool.and_eq_true, decide_eq_true_eq] at hh
    obtain ⟨⟨⟨⟨⟨⟨⟨h1, h2⟩, h3⟩, h4⟩, h5⟩, h6⟩, h7⟩, h8⟩ := hh
    subst h1 h2
    obtain ⟨ta, q1, q2⟩ := iha.E C sc W _ c h5
    obtain ⟨tb, k1, k2⟩ := ihb.E C sc W _ c h6
    refine ⟨_, pe_listRg c.calm (c.gl h3) (c.free F (by decide +kernel)) (prg_2 (c.gl h4) (c.free F (by decide +kernel)) q1 k1 (plain_star h7) (plain_star h8) (by rw [plain_star h8]; rfl)), fun r Z σ H Q cf a => ?_⟩
    refine q2.first cf a fun x vx Z1 H1 s1 r1 a1 => ?_
    refine k2.first (cf.step s1) a1 fun y vy Z2 H2 s2 r2 a2 => ?_
    unfold rng2T at a2
    split at a2
    · rename_i i j
      cases r1
      cases r2
      unfold rngI at a2
      split at a2
      · rename_i hd
        have hd := of_decide_eq_true hd
        have hlim : (j - i).toNat ≤ 2 ^ 24 := hd.2.2.2.2
        refine ⟨i, j, rfl, rfl, ⟨hd.1, hd.2.1, hd.2.2.1, hd.2.2.2.1, hlim⟩, fun p hp => ?_⟩
        have st := s1.trans s2
        refine Post.newL s2.pre (Post.shift st a2) ?_ (by rw [rgV_length, ← limLine]; exact hd.2.2.2.2) hp
        unfold rgV
        generalize List.range (j - i).toNat = l
        induction l with
        | nil => exact .nil
        | cons k l ih => exact .cons (.int _) ih
      · exact a2.elim
    · exact a2.elim
  | and a b iha ihb =>
    have hW : ∀ (C : Cx) (sc : Scope) (W : Nat → Hp → Prop) (e : Expr), CtxOk g ck sc W n C → (∃ ea eb es p, e = .BoolOp .And (ea :: eb :: es) p ∧ chkT ck a sc ea = true ∧ (tailB es (chkT ck b sc eb) (chkW ck b sc (.BoolOp .And (eb :: es) p))) = true) → SW g C W e (evT call (.and a b)) := fun C sc W e c h => by
      obtain ⟨ea, eb, es, p, rfl, h1, h2⟩ := h
      obtain ⟨ta, q1, q2⟩ := iha.T C sc W _ c h1
      obtain ⟨tb, k1, k2⟩ := andW_list ihb c h2
      exact ⟨_, pw_and q1 k1, sim_andT q2 k2⟩
    have inv : ∀ {sc : Scope} {e : Expr}, chkT ck (.and a b) sc e = true ∨ chkW ck (.and a b) sc e = true → ∃ ea eb es p, e = .BoolOp .And (ea :: eb :: es) p ∧ chkT ck a sc ea = true ∧ (tailB es (chkT ck b sc eb) (chkW ck b sc (.BoolOp .And (eb :: es) p))) = true := fun {sc e} h => by
      cases e with
      | BoolOp o vs p =>
        match o, vs, h with
        | .And, ea :: eb :: es, h =>
          have h : (chkT ck a sc ea && (tailB es (chkT ck b sc eb) (chkW ck b sc (.BoolOp .And (eb :: es) p)))) = true := by
            rcases h with h | h
            · exact h
            · exact h
          rw [Bool.and_eq_true] at h
          exact ⟨ea, eb, es, p, rfl, h.1, h.2⟩
        | .And, [], h => exact h.elim (fun h => (Bool.false_ne_true h).elim) fun h => (Bool.false_ne_true h).elim
        | .And, [_], h => exact h.elim (fun h => (Bool.false_ne_true h).elim) fun h => (Bool.false_ne_true h).elim
        | .Or, _, h => exact h.elim (fun h => (Bool.false_ne_true h).elim) fun h => (Bool.false_ne_true h).elim
      | _ => exact h.elim (fun h => (Bool.false_ne_true h).elim) fun h => (Bool.false_ne_true h).elim
    refine ⟨fun C sc W e c h => ?_, fun C sc W e c h => ?_, fun C sc W e c h => hW C sc W e c (inv (.inr h)), fun C sc W e c h => (Bool.false_ne_true h).elim, fun C sc W e c h => (Bool.false_ne_true h).elim, fun C sc W e c h => (Bool.false_ne_true h).elim, fun C sc W tg e c h => (Bool.false_ne_true h).elim⟩
    · cases e with
      | BoolOp o vs p =>
        match o, vs, h with
        | .And, ea :: eb :: es, h =>
          have h : (chkE ck a sc ea && (tailB es (chkE ck b sc eb) (chkE ck b sc (.BoolOp .And (eb :: es) p)))) = true := h
          rw [Bool.and_eq_true] at h
          obtain ⟨ta, q1, q2⟩ := iha.E C sc W _ c h.1
          obtain ⟨tb, k1, k2⟩ := and_list ihb c h.2
          exact ⟨_, pe_and q1 k1, sim_andV q2 k2⟩
        | .And, [], h => exact (Bool.false_ne_true h).elim
        | .And, [_], h => exact (Bool.false_ne_true h).elim
        | .Or, _, h => exact (Bool.false_ne_true h).elim
      | _ => exact (Bool.false_ne_true h).elim
    · obtain ⟨t, h1, h2⟩ := hW C sc W e c (inv (.inl h))
      exact ⟨t, h1.pt, h2⟩
  | or a b iha ihb =>
    have hW : ∀ (C : Cx) (sc : Scope) (W : Nat → Hp → Prop) (e : Expr), CtxOk g ck sc W n C → (∃ ea eb es p, e = .BoolOp .Or (ea :: eb :: es) p ∧ chkT ck a sc ea = true ∧ (tailB es (chkT ck b sc eb) (chkW ck b sc (.BoolOp .Or (eb :: es) p))) = true) → SW g C W e (evT call (.or a b)) := fun C sc W e c h => by
      obtain ⟨ea, eb, es, p, rfl, h1, h2⟩ := h
      obtain ⟨ta, q1, q2⟩ := iha.T C sc W _ c h1
      obtain ⟨tb, k1, k2⟩ := orW_list ihb c h2
      exact ⟨_, pw_or q1 k1, sim_orT q2 k2⟩
    have inv : ∀ {sc : Scope} {e : Expr}, chkT ck (.or a b) sc e = true ∨ chkW ck (.or a b) sc e = true → ∃ ea eb es p, e = .BoolOp .Or (ea :: eb :: es) p ∧ chkT ck a sc ea = true ∧ (tailB es (chkT ck b sc eb) (chkW ck b sc (.BoolOp .Or (eb :: es) p))) = true := fun {sc e} h => by
      cases e with
      | BoolOp o vs p =>
        match o, vs, h with
        | .Or, ea :: eb :: es, h =>
          have h : (chkT ck a sc ea && (tailB es (chkT ck b sc eb) (chkW ck b sc (.BoolOp .Or (eb :: es) p)))) = true := by
            rcases h with h | h
            · exact h
            · exact h
          rw [Bool.and_eq_true] at h
          exact ⟨ea, eb, es, p, rfl, h.1, h.2⟩
        | .Or, [], h => exact h.elim (fun h => (Bool.false_ne_true h).elim) fun h => (Bool.false_ne_true h).elim
        | .Or, [_], h => exact h.elim (fun h => (Bool.false_ne_true h).elim) fun h => (Bool.false_ne_true h).elim
        | .And, _, h => exact h.elim (fun h => (Bool.false_ne_true h).elim) fun h => (Bool.false_ne_true h).elim
      | _ => exact h.elim (fun h => (Bool.false_ne_true h).elim) fun h => (Bool.false_ne_true h).elim
    refine ⟨fun C sc W e c h => ?_, fun C sc W e c h => ?_, fun C sc W e c h => hW C sc W e c (inv (.inr h)), fun C sc W e c h => (Bool.false_ne_true h).elim, fun C sc W e c h => (Bool.false_ne_true h).elim, fun C sc W e c h => (Bool.false_ne_true h).elim, fun C sc W tg e c h => (Bool.false_ne_true h).elim⟩
    · cases e with
      | BoolOp o vs p =>
        match o, vs, h with
        | .Or, ea :: eb :: es, h =>
          have h : (chkE ck a sc ea && (tailB es (chkE ck b sc eb) (chkE ck b sc (.BoolOp .Or (eb :: es) p)))) = true := h
          rw [Bool.and_eq_true] at h
          obtain ⟨ta, q1, q2⟩ := iha.E C sc W _ c h.1
          obtain ⟨tb, k1, k2⟩ := and_list ihb c h.2
          exact ⟨_, pe_or q1 k1, sim_orV q2 k2⟩
        | .Or, [], h => exact (Bool.false_ne_true h).elim
        | .Or, [_], h => exact (Bool.false_ne_true h).elim
        | .And, _, h => exact (Bool.false_ne_true h).elim
      | _ => exact (Bool.false_ne_true h).elim
    · obtain ⟨t, h1, h2⟩ := hW C sc W e c (inv (.inl h))
      exact ⟨t, h1.pt, h2⟩
  | not a iha =>
    refine ⟨fun C sc W e c h => ?_, fun C sc W e c h => ?_, fun C sc W e c h => (Bool.false_ne_true h).elim, fun C sc W e c h => (Bool.false_ne_true h).elim, fun C sc W e c h => (Bool.false_ne_true h).elim, fun C sc W e c h => (Bool.false_ne_true h).elim, fun C sc W tg e c h => (Bool.false_ne_true h).elim⟩
    · cases e with
      | UnaryOp o ea p => cases o with
        | Not =>
          obtain ⟨ta, q1, q2⟩ := iha.E C sc W _ c h
          exact ⟨_, pe_not q1, sim_notV q2⟩
        | _ => exact (Bool.false_ne_true h).elim
      | _ => exact (Bool.false_ne_true h).elim
    · cases e with
      | UnaryOp o ea p => cases o with
        | Not =>
          obtain ⟨ta, q1, q2⟩ := iha.T C sc W _ c h
          exact ⟨_, pt_not q1, sim_notT q2⟩
        | _ => exact (Bool.false_ne_true h).elim
      | _ => exact (Bool.false_ne_true h).elim
  | ite t a b iht iha ihb =>
    refine constE rfl (fun C sc W e c h => ?_) (fun _ _ => rfl) (fun _ _ _ => rfl) (fun _ _ => rfl) (fun _ _ => rfl) (fun _ _ => rfl) (fun _ _ => rfl)
    cases e with
    | IfExp et ea eb p =>
      have h : (chkT ck t sc et && chkE ck a sc ea && chkE ck b sc eb) = true := h
      simp only [Bool.and_eq_true] at h
      obtain ⟨⟨h0, h1⟩, h2⟩ := h
      obtain ⟨tt, j1, j2⟩ := iht.T C sc W _ c h0
      obtain ⟨ta, q1, q2⟩ := iha.E C sc W _ c h1
      obtain ⟨tb, k1, k2⟩ := ihb.E C sc W _ c h2
      exact ⟨_, pe_ifExp j1 q1 k1, sim_if j2 q2 k2⟩
    | _ => exact (Bool.false_ne_true h).elim
  | tup as ih =>
    have key : ∀ (C : Cx) (sc : Scope) (W : Nat → Hp → Prop) (e : Expr), CtxOk g ck sc W n C → chkE ck (.tup as) sc e = true → SE g C W e (fun r => (evs call as).A r >>= fun ds => lenT ds (.tup ds)) := fun C sc W e c h => by
      cases e with
      | Tuple es k p =>
        obtain ⟨ta, q1, q2⟩ := ih.A C sc W _ c h
        exact ⟨_, pe_tup q1.1, sim_tup q2⟩
      | _ => exact (Bool.false_ne_true h).elim
    refine ofE_snd rfl key (fun C sc e h => (Bool.false_ne_true h).elim) (fun _ _ _ _ _ _ _ _ h => (Bool.false_ne_true h).elim) (fun sc tg e h => ?_) (fun _ _ => rfl) (fun _ _ => rfl) (fun _ _ => rfl) (fun _ _ => rfl)
    cases e with
    | Tuple es k p => exact h
    | _ => exact (Bool.false_ne_true h).elim
  | lst as ih =>
    have key : ∀ (C : Cx) (sc : Scope) (W : Nat → Hp → Prop) (e : Expr), CtxOk g ck sc W n C → chkE ck (.lst as) sc e = true → SE g C W e (fun r => (evs call as).A r >>= fun ds => lenT ds (.new ds)) := fun C sc W e c h => by
      cases e with
      | List es p =>
        obtain ⟨ta, q1, q2⟩ := ih.A C sc W _ c h
        exact ⟨_, pe_lst q1.1, sim_lst q2⟩
      | _ => exact (Bool.false_ne_true h).elim
    refine ofE_snd rfl key (fun C sc e h => (Bool.false_ne_true h).elim) (fun _ _ _ _ _ _ _ _ h => (Bool.false_ne_true h).elim) (fun sc tg e h => ?_) (fun _ _ => rfl) (fun _ _ => rfl) (fun _ _ => rfl) (fun _ _ => rfl)
    cases e with
    | List es p => exact h
    | _ => exact (Bool.false_ne_true h).elim
  | nil =>
    refine ⟨fun C sc W e c h => (Bool.false_ne_true h).elim, fun C sc W e c h => (Bool.false_ne_true h).elim, fun C sc W e c h => (Bool.false_ne_true h).elim, fun C sc W e c h => ?_, fun C sc W e c h => ?_, fun C sc W e c h => (Bool.false_ne_true h).elim, fun C sc W tg e c h => (Bool.false_ne_true h).elim⟩
    · cases e with
      | nil => exact ⟨_, ⟨pa_nil, fun kws hk => by cases List.map_eq_nil_iff.mp hk; exact pk_nil⟩, sim_nilA⟩
      | cons _ _ => exact (Bool.false_ne_true h).elim
    · cases e with
      | nil => exact ⟨_, pa_nil, sim_nilR⟩
      | cons _ _ => exact (Bool.false_ne_true h).elim
  | cons a as iha ihs =>
    refine ⟨fun C sc W e c h => (Bool.false_ne_true h).elim, fun C sc W e c h => (Bool.false_ne_true h).elim, fun C sc W e c h => (Bool.false_ne_true h).elim, fun C sc W e c h => ?_, fun C sc W e c h => ?_, fun C sc W e c h => (Bool.false_ne_true h).elim, fun C sc W tg e c h => (Bool.false_ne_true h).elim⟩
    · cases e with
      | nil => exact (Bool.false_ne_true h).elim
      | cons e es =>
        have h : (chkE ck a sc e && plainE e && chkA ck as sc es) = true := h
        simp only [Bool.and_eq_true] at h
        obtain ⟨ta, q1, q2⟩ := iha.E C sc W _ c h.1.1
        obtain ⟨tb, k1, k2⟩ := ihs.A C sc W _ c h.2
        refine ⟨_, ⟨pa_cons q1 k1.1 (plain_star h.1.2), fun kws hk => ?_⟩, sim_consA q2 k2⟩
        cases kws with
        | nil => cases hk
        | cons kw kws =>
          obtain ⟨nm, e', kp⟩ := kw
          cases hk
          exact pk_cons q1 (k1.2 kws rfl)
    · cases e with
      | nil => exact (Bool.false_ne_true h).elim
      | cons e es =>
        have h : (chkE ck a sc e && plainE e && chkR ck as sc es) = true := h
        simp only [Bool.and_eq_true] at h
        obtain ⟨ta, q1, q2⟩ := iha.E C sc W _ c h.1.1
        obtain ⟨tb, k1, k2⟩ := ihs.R C sc W _ c h.2
        exact ⟨_, pa_cons q1 k1 (plain_star h.1.2), sim_consR q2 k2⟩
  | idx a i iha ihi =>
    have key : ∀ (C : Cx) (sc : Scope) (W : Nat → Hp → Prop) (e : Expr), CtxOk g ck sc W n C → chkE ck (.idx a i) sc e = true → SE g C W e (fun r => (evs call a).E r >>= fun x => (evs call i).E r >>= fun y => idxT x y) := fun C sc W e c h => by
      cases e with
      | Subscript ea ei p =>
        have h : (chkE ck a sc ea && chkE ck i sc ei && plainIxB ei) = true := by
          cases ei <;> first
            | exact h
            | exact (Bool.false_ne_true h).elim
        simp only [Bool.and_eq_true] at h
        obtain ⟨ta, q1, q2⟩ := iha.E C sc W _ c h.1.1
        obtain ⟨tb, k1, k2⟩ := ihi.E C sc W _ c h.1.2
        have e1 : IxR C (rIx g.K) := by rw [← c.K]; exact ix_seq
        exact ⟨_, pe_ix e1 q1 k1 (plainIx_ok h.2), sim_op ops_idx q2 k2⟩
      | _ => exact (Bool.false_ne_true h).elim
    refine ofE_snd rfl key (fun C sc e h => (Bool.false_ne_true h).elim) (fun _ _ _ _ _ _ _ _ h => (Bool.false_ne_true h).elim) (fun sc tg e h => ?_) (fun _ _ => rfl) (fun _ _ => rfl) (fun _ _ => rfl) (fun _ _ => rfl)
    cases e with
    | Subscript ea ei p => cases ei <;> exact h
    | _ => exact (Bool.false_ne_true h).elim
  | slc a lo hi iha ihl ihh =>
    have key : ∀ (C : Cx) (sc : Scope) (W : Nat → Hp → Prop) (e : Expr), CtxOk g ck sc W n C → chkE ck (.slc a lo hi) sc e = true → SE g C W e (fun r => (evs call a).E r >>= fun x => (evs call lo).O r >>= fun l => (evs call hi).O r >>= fun h => slcT x l h) := fun C sc W e c h => by
      cases e with
      | Subscript ea ei p => cases ei with
        | Slice l hh st p2 => cases st with
          | none =>
            have h : (chkE ck a sc ea && chkO ck lo sc l && chkO ck hi sc hh) = true := h
            simp only [Bool.and_eq_true] at h
            obtain ⟨ta, q1, q2⟩ := iha.E C sc W _ c h.1.1
            obtain ⟨tl, k1, k2⟩ := ihl.O C sc W _ c h.1.2
            obtain ⟨th, j1, j2⟩ := ihh.O C sc W _ c h.2
            have e1 : SlR C (fun x lo hi H Q => rSlL g.K x lo hi H Q ∨ rSlA g.K x lo hi H Q) := by rw [← c.K]; exact sl_list.or sl_tupA
            exact ⟨_, pe_slice e1 q1 k1 j1, sim_slc q2 k2 j2⟩
          | some _ => exact (Bool.false_ne_true h).elim
        | _ => exact (Bool.false_ne_true h).elim
      | _ => exact (Bool.false_ne_true h).elim
    refine ofE_snd rfl key (fun C sc e h => (Bool.false_ne_true h).elim) (fun _ _ _ _ _ _ _ _ h => (Bool.false_ne_true h).elim) (fun sc tg e h => ?_) (fun _ _ => rfl) (fun _ _ => rfl) (fun _ _ => rfl) (fun _ _ => rfl)
    cases e with
    | Subscript ea ei p => cases ei with
      | Slice l hh st p2 => cases st with
        | none => exact h
        | some _ => exact (Bool.false_ne_true h).elim
      | _ => exact (Bool.false_ne_true h).elim
    | _ => exact (Bool.false_ne_true h).elim
  | part a iha =>
    refine ⟨fun C sc W e c h => (Bool.false_ne_true h).elim, fun C sc W e c h => (Bool.false_ne_true h).elim, fun C sc W e c h => (Bool.false_ne_true h).elim, fun C sc W e c h => (Bool.false_ne_true h).elim, fun C sc W e c h => (Bool.false_ne_true h).elim, fun C sc W e c h => ?_, fun C sc W tg e c h => (Bool.false_ne_true h).elim⟩
    cases e with
    | none => exact (Bool.false_ne_true h).elim
    | some e =>
      obtain ⟨ta, q1, q2⟩ := iha.E C sc W _ c h
      exact ⟨_, po_some q1, sim_part q2⟩
  | nopart =>
    refine ⟨fun C sc W e c h => (Bool.false_ne_true h).elim, fun C sc W e c h => (Bool.false_ne_true h).elim, fun C sc W e c h => (Bool.false_ne_true h).elim, fun C sc W e c h => (Bool.false_ne_true h).elim, fun C sc W e c h => (Bool.false_ne_true h).elim, fun C sc W e c h => ?_, fun C sc W tg e c h => (Bool.false_ne_true h).elim⟩
    cases e with
    | none => exact ⟨_, po_none, sim_noPart⟩
    | some e => exact (Bool.false_ne_true h).elim
  | call f as ih =>
    have inv : ∀ {sc : Scope} {e : Expr}, chkE ck (.call f as) sc e = true → ∃ x p e' es pos, e = .Call (.Name x p) (e' :: es) [] pos ∧ (glB sc x && decide ((f, x, (e' :: es).length) ∈ ck.fns) && chkA ck as sc (e' :: es) && (e' :: es).all plainE) = true := fun {sc e} h => by
      cases e with
      | Call fn args kws pos => cases fn with
        | Name x p =>
          match args, kws, h with
          | e' :: es, [], h => exact ⟨x, p, e', es, pos, rfl, h⟩
          | [], _, h => exact (Bool.false_ne_true h).elim
          | _ :: _, _ :: _, h => exact (Bool.false_ne_true h).elim
        | _ => exact (Bool.false_ne_true h).elim
      | _ => exact (Bool.false_ne_true h).elim
    have key : ∀ (C : Cx) (sc : Scope) (W : Nat → Hp → Prop) (e : Expr), CtxOk g ck sc W n C → chkE ck (.call f as) sc e = true → SE g C W e (fun r => (evs call as).A r >>= fun ds => call f ds) := fun C sc W e c h => by
      obtain ⟨x, p, e', es, pos, rfl, h⟩ := inv h
      exact se_call c F ih h
    refine ofE_snd rfl key (fun C sc e h => ?_) (fun _ _ _ _ _ _ _ _ h => (Bool.false_ne_true h).elim) (fun sc tg e h => ?_) (fun _ _ => rfl) (fun _ _ => rfl) (fun _ _ => rfl) (fun _ _ => rfl)
    · cases e with
      | Call fn args kws pos => cases fn with
        | Name x p =>
          match args, kws, h with
          | e' :: es, [], h => exact ⟨h, .inl fun _ => rfl⟩
          | [], _, h => exact (Bool.false_ne_true h).elim
          | _ :: _, _ :: _, h => exact (Bool.false_ne_true h).elim
        | _ => exact (Bool.false_ne_true h).elim
      | _ => exact (Bool.false_ne_true h).elim
    · cases e with
      | Call fn args kws pos => cases fn with
        | Name x p =>
          match args, kws, h with
          | e' :: es, [], h => exact h
          | [], _, h => exact (Bool.false_ne_true h).elim
          | _ :: _, _ :: _, h => exact (Bool.false_ne_true h).elim
        | _ => exact (Bool.false_ne_true h).elim
      | _ => exact (Bool.false_ne_true h).elim
  | callK f perm as ih =>
    have inv : ∀ {sc : Scope} {e : Expr}, chkE ck (.callK f perm as) sc e = true → ∃ x p kws pos, e = .Call (.Name x p) [] kws pos ∧ (glB sc x && decide ((f, x, kwNames kws, perm) ∈ ck.kws) && kwSome kws && chkA ck as sc (kws.map (·.value))) = true := fun {sc e} h => by
      cases e with
      | Call fn args kws pos => cases fn with
        | Name x p =>
          match args, kws, h with
          | [], kw :: kws, h => exact ⟨x, p, kw :: kws, pos, rfl, h⟩
          | [], [], h => exact (Bool.false_ne_true h).elim
          | _ :: _, _, h => exact (Bool.false_ne_true h).elim
        | _ => exact (Bool.false_ne_true h).elim
      | _ => exact (Bool.false_ne_true h).elim
    have key : ∀ (C : Cx) (sc : Scope) (W : Nat → Hp → Prop) (e : Expr), CtxOk g ck sc W n C → chkE ck (.callK f perm as) sc e = true → SE g C W e (fun r => (evs call as).A r >>= fun ds => ofO (permD perm ds) >>= fun ds => call f ds) := fun C sc W e c h => by
      obtain ⟨x, p, kws, pos, rfl, h2⟩ := inv h
      exact se_callK c F ih h2
    refine ofE_snd rfl key (fun C sc e h => ?_) (fun _ _ _ _ _ _ _ _ h => (Bool.false_ne_true h).elim) (fun sc tg e h => ?_) (fun _ _ => rfl) (fun _ _ => rfl) (fun _ _ => rfl) (fun _ _ => rfl)
    · cases e with
      | Call fn args kws pos => cases fn with
        | Name x p =>
          match args, kws, h with
          | [], kw :: kws, h => exact ⟨h, .inl fun _ => rfl⟩
          | [], [], h => exact (Bool.false_ne_true h).elim
          | _ :: _, _, h => exact (Bool.false_ne_true h).elim
        | _ => exact (Bool.false_ne_true h).elim
      | _ => exact (Bool.false_ne_true h).elim
    · cases e with
      | Call fn args kws pos => cases fn with
        | Name x p =>
          match args, kws, h with
          | [], kw :: kws, h => exact h
          | [], [], h => exact (Bool.false_ne_true h).elim
          | _ :: _, _, h => exact (Bool.false_ne_true h).elim
        | _ => exact (Bool.false_ne_true h).elim
      | _ => exact (Bool.false_ne_true h).elim
  | op0 o =>
    refine constE rfl (fun C sc W e c h => ?_) (fun _ _ => rfl) (fun _ _ _ => rfl) (fun _ _ => rfl) (fun _ _ => rfl) (fun _ _ => rfl) (fun _ _ => rfl)
    cases o
    have h : op0P .emp e = true := h
    unfold op0P at h
    split at h
    · exact ⟨_, pe_dnewK, sim_op0⟩
    · cases h
  | op1 o a iha =>
    have inv : ∀ {sc : Scope} {e : Expr}, (match op1P o e with | some ea => chkE ck a sc ea | none => false) = true → ∃ ea, op1P o e = some ea ∧ chkE ck a sc ea = true := fun {sc e} h => by
      cases q : op1P o e with
      | none => rw [q] at h; cases h
      | some ea => rw [q] at h; exact ⟨ea, rfl, h⟩
    refine ofE_snd rfl (fun C sc W e c h => ?_) (fun C sc e h => ?_) (fun C sc W ea os es p c h => ?_) (fun sc tg e h => ?_) (fun _ _ => rfl) (fun _ _ => rfl) (fun _ _ => rfl) (fun _ _ => rfl)
    · obtain ⟨ea, h1, h2⟩ := inv (sc := sc) (e := e) (by cases e <;> exact h)
      obtain ⟨t, q1, q2⟩ := iha.E C sc W _ c h2
      exact op1_ok c h1 q1 q2
    · obtain ⟨ea, h1, h2⟩ := inv (sc := sc) (e := e) (by cases e <;> exact h)
      refine ⟨?_, .inl (op1_test h1 _)⟩
      have h3 : (match op1P o e with | some ea => chkE ck a sc ea | none => false) = true := by rw [h1]; exact h2
      cases e <;> exact h3
    · obtain ⟨eb, h1, h2⟩ := inv (sc := sc) (e := .Compare ea os es p) h
      cases o
      cases h1
    · obtain ⟨ea, h1, h2⟩ := inv (sc := sc) (e := e) (by cases e <;> exact h)
      have h3 : (match op1P o e with | some ea => chkE ck a sc ea | none => false) = true := by rw [h1]; exact h2
      cases e <;> exact h3
  | callM f m perm as bs iha ihb =>
    have inv : ∀ {sc : Scope} {e : Expr}, chkE ck (.callM f m perm as bs) sc e = true → ∃ x p e' es kws pos, e = .Call (.Name x p) (e' :: es) kws pos ∧ (glB sc x && decide (m = es.length + 1) && decide ((f, x, m, kwNames kws, perm) ∈ ck.mws) && kwSome kws && chkA ck as sc (e' :: es) && (e' :: es).all plainE && chkA ck bs sc (kws.map (·.value))) = true := fun {sc e} h => by
      cases e with
      | Call fn args kws pos => cases fn with
        | Name x p =>
          match args, kws, h with
          | e' :: es, kw :: kws, h => exact ⟨x, p, e', es, kw :: kws, pos, rfl, h⟩
          | [], _, h => exact (Bool.false_ne_true h).elim
          | _ :: _, [], h => exact (Bool.false_ne_true h).elim
        | _ => exact (Bool.false_ne_true h).elim
      | _ => exact (Bool.false_ne_true h).elim
    have key : ∀ (C : Cx) (sc : Scope) (W : Nat → Hp → Prop) (e : Expr), CtxOk g ck sc W n C → chkE ck (.callM f m perm as bs) sc e = true → SE g C W e (fun r => (evs call as).A r >>= fun ds => (evs call bs).A r >>= fun es => ofO (permM m perm ds es) >>= fun ds => call f ds) := fun C sc W e c h => by
      obtain ⟨x, p, e', es, kws, pos, rfl, h2⟩ := inv h
      simp only [Bool.and_eq_true, decide_eq_true_eq] at h2
      obtain ⟨⟨⟨⟨⟨⟨h1, _⟩, h2⟩, h3⟩, h4⟩, h5⟩, h6⟩ := h2
      obtain ⟨t, q1, q2⟩ := iha.A C sc W _ c h4
      obtain ⟨t2, k1, k2⟩ := ihb.A C sc W _ c h6
      exact ⟨_, pe_fnm c F h2 h1 h3 q1.1 h5 (k1.2 kws rfl), sim_callM q2 k2⟩
    refine ofE_snd rfl key (fun C sc e h => ?_) (fun _ _ _ _ _ _ _ _ h => (Bool.false_ne_true h).elim) (fun sc tg e h => ?_) (fun _ _ => rfl) (fun _ _ => rfl) (fun _ _ => rfl) (fun _ _ => rfl)
    · cases e with
      | Call fn args kws pos => cases fn with
        | Name x p =>
          match args, kws, h with
          | e' :: es, kw :: kws, h => exact ⟨h, .inl fun _ => rfl⟩
          | [], _, h => exact (Bool.false_ne_true h).elim
          | _ :: _, [], h => exact (Bool.false_ne_true h).elim
        | _ => exact (Bool.false_ne_true h).elim
      | _ => exact (Bool.false_ne_true h).elim
    · cases e with
      | Call fn args kws pos => cases fn with
        | Name x p =>
          match args, kws, h with
          | e' :: es, kw :: kws, h => exact h
          | [], _, h => exact (Bool.false_ne_true h).elim
          | _ :: _, [], h => exact (Bool.false_ne_true h).elim
        | _ => exact (Bool.false_ne_true h).elim
      | _ => exact (Bool.false_ne_true h).elim
  | blt f as ih =>
    have key : ∀ (C : Cx) (sc : Scope) (W : Nat → Hp → Prop) (e : Expr), CtxOk g ck sc W n C → chkE ck (.blt f as) sc e = true → SE g C W e (fun r => (evs call as).R r >>= fun ds => bltT f ds) := fun C sc W e c h => by
      cases e with
      | Call fn args kws pos => cases fn with
        | Name x p =>
          match args, kws, h with
          | e' :: es, [], h => exact se_blt c F ih h
          | [], _, h => exact (Bool.false_ne_true h).elim
          | _ :: _, _ :: _, h => exact (Bool.false_ne_true h).elim
        | _ => exact (Bool.false_ne_true h).elim
      | _ => exact (Bool.false_ne_true h).elim
    refine ofE_snd rfl key (fun C sc e h => ?_) (fun _ _ _ _ _ _ _ _ h => (Bool.false_ne_true h).elim) (fun sc tg e h => ?_) (fun _ _ => rfl) (fun _ _ => rfl) (fun _ _ => rfl) (fun _ _ => rfl)
    · cases e with
      | Call fn args kws pos => cases fn with
        | Name x p =>
          match args, kws, h with
          | e' :: es, [], h => exact ⟨h, .inl fun _ => rfl⟩
          | [], _, h => exact (Bool.false_ne_true h).elim
          | _ :: _, _ :: _, h => exact (Bool.false_ne_true h).elim
        | _ => exact (Bool.false_ne_true h).elim
      | _ => exact (Bool.false_ne_true h).elim
    · cases e with
      | Call fn args kws pos => cases fn with
        | Name x p =>
          match args, kws, h with
          | e' :: es, [], h => exact h
          | [], _, h => exact (Bool.false_ne_true h).elim
          | _ :: _, _ :: _, h => exact (Bool.false_ne_true h).elim
        | _ => exact (Bool.false_ne_true h).elim
      | _ => exact (Bool.false_ne_true h).elim
  | isk f a ih =>
    have inv : ∀ {sc : Scope} {e : Expr}, chkE ck (.isk f a) sc e = true ∨ chkT ck (.isk f a) sc e = true → ∃ x p e' y p2 pos, e = .Call (.Name x p) [e', .Name y p2] [] pos ∧ (glB sc x && decide (x = bltName f) && glB sc y && decide (kindName f = some y) && chkE ck a sc e' && plainE e') = true := fun {sc e} h => by
      cases e with
      | Call fn args kws pos => cases fn with
        | Name x p =>
          match args, kws, h with
          | [e', e2], [], h => cases e2 with
            | Name y p2 => exact ⟨x, p, e', y, p2, pos, rfl, h.elim (fun h => h) fun h => h⟩
            | _ => exact h.elim (fun h => (Bool.false_ne_true h).elim) fun h => (Bool.false_ne_true h).elim
          | [], _, h => exact h.elim (fun h => (Bool.false_ne_true h).elim) fun h => (Bool.false_ne_true h).elim
          | [_], _, h => exact h.elim (fun h => (Bool.false_ne_true h).elim) fun h => (Bool.false_ne_true h).elim
          | [_, e2], _ :: _, h => cases e2 <;> exact h.elim (fun h => (Bool.false_ne_true h).elim) fun h => (Bool.false_ne_true h).elim
          | _ :: e2 :: _ :: _, _, h => cases e2 <;> exact h.elim (fun h => (Bool.false_ne_true h).elim) fun h => (Bool.false_ne_true h).elim
        | _ => exact h.elim (fun h => (Bool.false_ne_true h).elim) fun h => (Bool.false_ne_true h).elim
      | _ => exact h.elim (fun h => (Bool.false_ne_true h).elim) fun h => (Bool.false_ne_true h).elim
    refine ofE_snd rfl (fun C sc W e c h => ?_) (fun C sc e h => ?_) (fun _ _ _ _ _ _ _ _ h => (Bool.false_ne_true h).elim) (fun sc tg e h => (Bool.false_ne_true h).elim) (fun _ _ => rfl) (fun _ _ => rfl) (fun _ _ => rfl) (fun _ _ => rfl)
    · obtain ⟨x, p, e', y, p2, pos, rfl, h⟩ := inv (.inl h)
      exact se_isk c F ih h
    · obtain ⟨x, p, e', y, p2, pos, rfl, h⟩ := inv (.inr h)
      exact ⟨h, .inl fun _ => rfl⟩
  | caught nx b ih =>
    refine constE rfl (fun C sc W e c h => ?_) (fun _ _ => rfl) (fun _ _ _ => rfl) (fun _ _ => rfl) (fun _ _ => rfl) (fun _ _ => rfl) (fun _ _ => rfl)
    cases e with
    | Call fn args kws pos => cases fn with
      | Name x p =>
        match args, kws, h with
        | [e'], [], h =>
          cases e' with
          | Lambda params body scope lpos => exact se_caught c F ih h
          | _ => exact (Bool.false_ne_true h).elim
        | [], _, h => exact (Bool.false_ne_true h).elim
        | [e'], _ :: _, h => cases e' <;> exact (Bool.false_ne_true h).elim
        | e' :: _ :: _, _, h => cases e' <;> exact (Bool.false_ne_true h).elim
      | _ => exact (Bool.false_ne_true h).elim
    | _ => exact (Bool.false_ne_true h).elim
  | isx nx k a ih =>
    have inv : ∀ {sc : Scope} {e : Expr}, chkE ck (.isx nx k a) sc e = true ∨ chkT ck (.isx nx k a) sc e = true → ∃ x p e' y p2 pos, e = .Call (.Name x p) [e', .Name y p2] [] pos ∧ (glB sc x && decide (x = ("isinstance" : Str)) && glB sc y && decide ((k, y) ∈ ck.exs) && decide (ck.nx = nx) && chkE ck a sc e' && plainE e') = true := fun {sc e} h => by
      cases e with
      | Call fn args kws pos => cases fn with
        | Name x p =>
          match args, kws, h with
          | [e', e2], [], h => cases e2 with
            | Name y p2 => exact ⟨x, p, e', y, p2, pos, rfl, h.elim (fun h => h) fun h => h⟩
            | _ => exact h.elim (fun h => (Bool.false_ne_true h).elim) fun h => (Bool.false_ne_true h).elim
          | [], _, h => exact h.elim (fun h => (Bool.false_ne_true h).elim) fun h => (Bool.false_ne_true h).elim
          | [_], _, h => exact h.elim (fun h => (Bool.false_ne_true h).elim) fun h => (Bool.false_ne_true h).elim
          | [_, e2], _ :: _, h => cases e2 <;> exact h.elim (fun h => (Bool.false_ne_true h).elim) fun h => (Bool.false_ne_true h).elim
          | _ :: e2 :: _ :: _, _, h => cases e2 <;> exact h.elim (fun h => (Bool.false_ne_true h).elim) fun h => (Bool.false_ne_true h).elim
        | _ => exact h.elim (fun h => (Bool.false_ne_true h).elim) fun h => (Bool.false_ne_true h).elim
      | _ => exact h.elim (fun h => (Bool.false_ne_true h).elim) fun h => (Bool.false_ne_true h).elim
    refine ofE_snd rfl (fun C sc W e c h => ?_) (fun C sc e h => ?_) (fun _ _ _ _ _ _ _ _ h => (Bool.false_ne_true h).elim) (fun sc tg e h => (Bool.false_ne_true h).elim) (fun _ _ => rfl) (fun _ _ => rfl) (fun _ _ => rfl) (fun _ _ => rfl)
    · obtain ⟨x, p, e', y, p2, pos, rfl, h⟩ := inv (.inl h)
      exact se_isx c F ih h
    · obtain ⟨x, p, e', y, p2, pos, rfl, h⟩ := inv (.inr h)
      exact ⟨h, .inl fun _ => rfl⟩
  | must a ih => exact constE rfl (fun C sc W e c h => (Bool.false_ne_true h).elim) (fun _ _ => rfl) (fun _ _ _ => rfl) (fun _ _ => rfl) (fun _ _ => rfl) (fun _ _ => rfl) (fun _ _ => rfl)
  | errs i tag ss ks st ihk ihs ihb =>
    have inv : ∀ {sc : Scope} {e : Expr}, chkE ck (.errs i tag ss ks st) sc e = true ∨ chkT ck (.errs i tag ss ks st) sc e = true → ∃ x p y p2 e' pos, e = .Call (.Name x p) [.Name y p2, e'] [] pos ∧ (decide (x = ("_law_pt_first_errors" : Str)) && glB sc x && decide (ck.lam = some sc) && visB ck sc i y && decide (ck.ltab.lookup tag = bods ks) && duesB ck.nx ck.dues ss ks && chkE ck st sc e' && plainE e') = true := fun {sc e} h => by
      cases e with
      | Call f es kws pos =>
        cases f with
        | Name x p =>
          match es, kws, h with
          | [a, e'], [], h =>
            cases a with
            | Name y p2 => exact ⟨x, p, y, p2, e', pos, rfl, h.elim (fun h => h) fun h => h⟩
            | _ => exact (h.elim Bool.false_ne_true Bool.false_ne_true).elim
          | [], _, h => exact (h.elim Bool.false_ne_true Bool.false_ne_true).elim
          | [a], _, h => cases a <;> exact (h.elim Bool.false_ne_true Bool.false_ne_true).elim
          | [a, e'], kw :: kws, h => cases a <;> exact (h.elim Bool.false_ne_true Bool.false_ne_true).elim
          | a :: b :: d :: es, _, h => cases a <;> exact (h.elim Bool.false_ne_true Bool.false_ne_true).elim
        | _ => exact (h.elim Bool.false_ne_true Bool.false_ne_true).elim
      | _ => exact (h.elim Bool.false_ne_true Bool.false_ne_true).elim
    refine ofE_snd rfl (fun C sc W e c h => ?_) (fun C sc e h => ?_) (fun C sc W a o b p c h => (Bool.false_ne_true h).elim) (fun sc tg e h => (Bool.false_ne_true h).elim) (fun _ _ => rfl) (fun _ _ => rfl) (fun _ _ => rfl) (fun _ _ => rfl)
    · obtain ⟨x, p, y, p2, e', pos, rfl, h⟩ := inv (.inl h)
      exact se_errs c F ihs ihb h
    · obtain ⟨x, p, y, p2, e', pos, rfl, h⟩ := inv (.inr h)
      exact ⟨h, .inl fun _ => rfl⟩
  | comp tg it cond elt own ihi ihc ihe =>
    refine constE rfl (fun C sc W e c h => ?_) (fun _ _ => rfl) (fun _ _ _ => rfl) (fun _ _ => rfl) (fun _ _ => rfl) (fun _ _ => rfl) (fun _ _ => rfl)
    cases e with
    | ListComp el gens scope pos =>
      match gens, h with
      | [⟨tge, ite, ifs, asy⟩], h =>
        by_cases ha : asy = 0
        · subst ha
          have h : (blkC ck.N sc scope own && decide (ck.lam ≠ some (relS scope sc)) && tgCell ck (relS scope sc) (fun x => scope.names.lookup x == some .cell) tg tge && tgIn own tg && notSetB ite && chkI ck it sc tge ite && condB ifs (isYes cond) (chkT ck cond (relS scope sc)) && chkE ck elt (relS scope sc) el) = true := h
          simp only [Bool.and_eq_true] at h
          obtain ⟨⟨⟨⟨⟨⟨⟨h1, h0⟩, h2⟩, h3⟩, h4⟩, h5⟩, h6⟩, h7⟩ := h
          have h0 := of_decide_eq_true h0
          obtain ⟨wi, q1, q2⟩ := ihi.I C sc W _ _ c h5
          have hb : BlkOk C.N C.env.scope scope own := by
            rw [c.N, c.sc]
            exact blkOk_by h1
          have hN : C.N.Nodup := by rw [c.N]; exact F.nd
          have e1 : evT call cond = (evs call cond).B := rfl
          -- the parts, whatever the block's own heap
          have blk := fun (s : Shared) (H : Hp) (A : Addr) (cl : List (Str × Addr)) (fp : List Addr) => c.blk s H scope A cl fp h0
          obtain ⟨gt, hg, sg⟩ := tg_any c F h0 h2
          obtain ⟨te, he, se⟩ := E_any ihe c h0 h7
          have hc : ∃ tt, (∀ (s : Shared) (H : Hp) (A : Addr) (cl : List (Str × Addr)) (fp : List Addr), PTs (C.blk s H scope (compEnvC scope cl A C.env) fp) ifs tt) ∧ SimB g (fun _ _ => False) tt (evs call cond).B := by
            match ifs, h6 with
            | [], h6 =>
              cases cond <;> first
                | exact (Bool.false_ne_true h6).elim
                | exact ⟨_, fun _ _ _ _ _ => pts_nil, sim_yes⟩
            | [cc], h6 =>
              obtain ⟨tt, k1, k2⟩ := B_any ihc c h0 h6
              exact ⟨tt, fun s H A cl fp => pts_one (k1 s H A cl fp), k2⟩
            | _ :: _ :: _, h6 => exact (Bool.false_ne_true h6).elim
          obtain ⟨tt, ht, st⟩ := hc
          exact ⟨_, pe_lc c.calm hN q1 hb hg ht he (notSet_ok h4), sim_comp q2 sg st se (tgIn_ok h3)⟩
        · exfalso
          match asy, ha, h with
          | .ofNat 0, ha, _ => exact ha rfl
          | .ofNat (_ + 1), _, h => exact Bool.false_ne_true h
          | .negSucc _, _, h => exact Bool.false_ne_true h
      | [], h => exact (Bool.false_ne_true h).elim
      | ⟨_, _, _, asy⟩ :: _ :: _, h =>
        exfalso
        match asy, h with
        | .ofNat 0, h => exact Bool.false_ne_true h
        | .ofNat (_ + 1), h => exact Bool.false_ne_true h
        | .negSucc _, h => exact Bool.false_ne_true h
    | _ => exact (Bool.false_ne_true h).elim
  | yes =>
    refine ⟨fun C sc W e c h => (Bool.false_ne_true h).elim, fun C sc W e c h => (Bool.false_ne_true h).elim, fun C sc W e c h => (Bool.false_ne_true h).elim, fun C sc W e c h => (Bool.false_ne_true h).elim, fun C sc W e c h => (Bool.false_ne_true h).elim, fun C sc W e c h => (Bool.false_ne_true h).elim, fun C sc W tg e c h => (Bool.false_ne_true h).elim⟩
  | cap a iha =>
    refine ⟨fun C sc W e c h => (Bool.false_ne_true h).elim, fun C sc W e c h => (Bool.false_ne_true h).elim, fun C sc W e c h => (Bool.false_ne_true h).elim, fun C sc W e c h => (Bool.false_ne_true h).elim, fun C sc W e c h => (Bool.false_ne_true h).elim, fun C sc W e c h => (Bool.false_ne_true h).elim, fun C sc W tg e c h => ?_⟩
    obtain ⟨ti, q1, q2⟩ := iha.I C sc W tg e c h
    exact ⟨ti, q1, simI_cap q2⟩
  | rng1 a iha =>
    refine ⟨fun C sc W e c h => (Bool.false_ne_true h).elim, fun C sc W e c h => (Bool.false_ne_true h).elim, fun C sc W e c h => (Bool.false_ne_true h).elim, fun C sc W e c h => (Bool.false_ne_true h).elim, fun C sc W e c h => (Bool.false_ne_true h).elim, fun C sc W e c h => (Bool.false_ne_true h).elim, fun C sc W tg e c h => ?_⟩
    cases e with
    | Call fn args kws pos => cases fn with
      | Name x p =>
        match args, kws, h with
        | [e], [], h =>
          have h : (glB sc x && decide (x = ("range" : Str)) && chkE ck a sc e && plainE e) = true := h
          simp only [Bool.and_eq_true, decide_eq_true_eq] at h
          obtain ⟨⟨⟨h1, h2⟩, h3⟩, h4⟩ := h
          subst h2
          obtain ⟨ta, q1, q2⟩ := iha.E C sc W _ c h3
          exact ⟨_, pi_range1 (c.gl h1) (c.free F (by decide +kernel)) (pa_cons q1 pa_nil (plain_star h4)) (by rw [plain_star h4]; rfl), simI_rng1 q2⟩
        | [], _, h => exact (Bool.false_ne_true h).elim
        | [_], _ :: _, h => exact (Bool.false_ne_true h).elim
        | _ :: _ :: _, _, h => exact (Bool.false_ne_true h).elim
      | _ => exact (Bool.false_ne_true h).elim
    | _ => exact (Bool.false_ne_true h).elim
  | rng2 a b iha ihb =>
    refine ⟨fun C sc W e c h => (Bool.false_ne_true h).elim, fun C sc W e c h => (Bool.false_ne_true h).elim, fun C sc W e c h => (Bool.false_ne_true h).elim, fun C sc W e c h => (Bool.false_ne_true h).elim, fun C sc W e c h => (Bool.false_ne_true h).elim, fun C sc W e c h => (Bool.false_ne_true h).elim, fun C sc W tg e c h => ?_⟩
    cases e with
    | Call fn args kws pos => cases fn with
      | Name x p =>
        match args, kws, h with
        | [e, f], [], h =>
          have h : (glB sc x && decide (x = ("range" : Str)) && chkE ck a sc e && chkE ck b sc f && plainE e && plainE f) = true := h
          simp only [Bool.and_eq_true, decide_eq_true_eq] at h
          obtain ⟨⟨⟨⟨⟨h1, h2⟩, h3⟩, h4⟩, h5⟩, h6⟩ := h
          subst h2
          obtain ⟨ta, q1, q2⟩ := iha.E C sc W _ c h3
          obtain ⟨tb, k1, k2⟩ := ihb.E C sc W _ c h4
          exact ⟨_, pi_range2 (c.gl h1) (c.free F (by decide +kernel)) (pa_cons q1 (pa_cons k1 pa_nil (plain_star h6)) (plain_star h5)) (by rw [plain_star h5, plain_star h6]; rfl) (by rw [plain_star h6]; rfl), simI_rng2 q2 k2⟩
        | [], _, h => exact (Bool.false_ne_true h).elim
        | [_], _, h => exact (Bool.false_ne_true h).elim
        | [_, _], _ :: _, h => exact (Bool.false_ne_true h).elim
        | _ :: _ :: _ :: _, _, h => exact (Bool.false_ne_true h).elim
      | _ => exact (Bool.false_ne_true h).elim
    | _ => exact (Bool.false_ne_true h).elim
  | zip a b iha ihb =>
    refine ⟨fun C sc W e c h => (Bool.false_ne_true h).elim, fun C sc W e c h => (Bool.false_ne_true h).elim, fun C sc W e c h => (Bool.false_ne_true h).elim, fun C sc W e c h => (Bool.false_ne_true h).elim, fun C sc W e c h => (Bool.false_ne_true h).elim, fun C sc W e c h => (Bool.false_ne_true h).elim, fun C sc W tg e c h => ?_⟩
    cases tg with
    | Tuple ts k tp =>
      cases e with
      | Call fn args kws pos => cases fn with
        | Name x p =>
          match args, kws, h with
          | [e, f], [], h =>
            have h : (glB sc x && decide (x = ("zip" : Str)) && chkE ck a sc e && chkE ck b sc f && plainE e && plainE f) = true := h
            simp only [Bool.and_eq_true, decide_eq_true_eq] at h
            obtain ⟨⟨⟨⟨⟨h1, h2⟩, h3⟩, h4⟩, h5⟩, h6⟩ := h
            subst h2
            obtain ⟨ta, q1, q2⟩ := iha.E C sc W _ c h3
            obtain ⟨tb, k1, k2⟩ := ihb.E C sc W _ c h4
            have e1 : PI C (.Tuple ts k tp) (.Call (.Name "zip" p) [e, f] [] pos) (RZ.iZipA g.K (tCons ta (tCons tb tNil))) := by
              rw [← c.K]
              exact RZ.pi_zipA (c.gl h1) (c.free F (by decide +kernel)) (pa_cons q1 (pa_cons k1 pa_nil (plain_star h6)) (plain_star h5)) (plain_star h5) (by rw [plain_star h6]; rfl)
            exact ⟨_, e1, simI_zip q2 k2⟩
          | [], _, h => exact (Bool.false_ne_true h).elim
          | [_], _, h => exact (Bool.false_ne_true h).elim
          | [_, _], _ :: _, h => exact (Bool.false_ne_true h).elim
          | _ :: _ :: _ :: _, _, h => exact (Bool.false_ne_true h).elim
        | _ => exact (Bool.false_ne_true h).elim
      | _ => exact (Bool.false_ne_true h).elim
    | _ => exact (Bool.false_ne_true h).elim
  | enum a iha =>
    refine ⟨fun C sc W e c h => (Bool.false_ne_true h).elim, fun C sc W e c h => (Bool.false_ne_true h).elim, fun C sc W e c h => (Bool.false_ne_true h).elim, fun C sc W e c h => (Bool.false_ne_true h).elim, fun C sc W e c h => (Bool.false_ne_true h).elim, fun C sc W e c h => (Bool.false_ne_true h).elim, fun C sc W tg e c h => ?_⟩
    cases tg with
    | Tuple ts k tp =>
      cases e with
      | Call fn args kws pos => cases fn with
        | Name x p =>
          match args, kws, h with
          | [e], [], h =>
            have h : (glB sc x && decide (x = ("enumerate" : Str)) && chkE ck a sc e && plainE e) = true := h
            simp only [Bool.and_eq_true, decide_eq_true_eq] at h
            obtain ⟨⟨⟨h1, h2⟩, h3⟩, h4⟩ := h
            subst h2
            obtain ⟨ta, q1, q2⟩ := iha.E C sc W _ c h3
            have e1 : PI C (.Tuple ts k tp) (.Call (.Name "enumerate" p) [e] [] pos) (iEnum g.K (tCons ta tNil)) := by
              rw [← c.K]
              exact pi_enum (c.gl h1) (c.free F (by decide +kernel)) (pa_cons q1 pa_nil (plain_star h4)) (by rw [plain_star h4]; rfl)
            exact ⟨_, e1, simI_enum q2⟩
          | [], _, h => exact (Bool.false_ne_true h).elim
          | [_], _ :: _, h => exact (Bool.false_ne_true h).elim
          | _ :: _ :: _, _, h => exact (Bool.false_ne_true h).elim
        | _ => exact (Bool.false_ne_true h).elim
      | _ => exact (Bool.false_ne_true h).elim
    | _ => exact (Bool.false_ne_true h).elim
end
end PV
end
section
set_option maxHeartbeats 8000000
/-! PvS7: statements. -/
namespace PV
open PySem PySem.Spec PyProof.Rows L2
section
variable {g : GF} {ck : Ck} {n : Nat} {call : Nat → List D → T D} {wh : Nat}
/-- within a def that was entered at Z0, H0 -/
structure SCfg (g : GF) (Z0 H0 : Hp) (r : Env) (Z : Hp) (σ : L2.St) (H : Hp) : Prop where
  cfg : Cfg g r Z σ H
  stp : Step g Z0 H0 Z H
  own0 : ∀ (i : Nat) (xs : List D) (a : Addr), r[i]? = some (.own xs) → σ[i]? = some (some (.ref a)) → H0 a = none
  dist : ∀ (i j : Nat) (xs ys : List D) (a : Addr), i ≠ j → r[i]? = some (.own xs) → r[j]? = some (.own ys) → σ[i]? = some (some (.ref a)) → σ[j]? = some (some (.ref a)) → False
def PostF (g : GF) (Z0 H0 Zl : Hp) (Dn : Ends) (m : Nat) : Fl → Prop
  | .nx r => ∀ Z σ H, SCfg g Z0 H0 r Z σ H → g.bud H = m → Sub Zl Z → Dn.nx σ H
  | .rt d => Post g Z0 H0 Dn.rt m d
  | .bk r => ∀ Z σ H, SCfg g Z0 H0 r Z σ H → g.bud H = m → Sub Zl Z → Dn.bk σ H
  | .ct r => ∀ Z σ H, SCfg g Z0 H0 r Z σ H → g.bud H = m → Sub Zl Z → Dn.ct σ H
def SimS (g : GF) (W : Nat → Hp → Prop) (Z0 H0 : Hp) (t : TS) (f : Env → T Fl) : Prop := ∀ (r : Env) (Z : Hp) (σ : L2.St) (H : Hp) (Dn : Ends), SCfg g Z0 H0 r Z σ H → (f r).All (PostF g Z0 H0 Z Dn) (PostE g Z0 H0 W) (g.bud H) → t Dn σ H
theorem PostF.shift {Z0 H0 Z Z1 : Hp} {Dn : Ends} {f : Fl} {m : Nat} (s : Sub Z Z1) (h : PostF g Z0 H0 Z Dn m f) : PostF g Z0 H0 Z1 Dn m f := by
  cases f with
  | nx r => exact fun Z' σ H c e q => h Z' σ H c e fun a o e => q a o (s a o e)
  | rt d => exact h
  | bk r => exact fun Z' σ H c e q => h Z' σ H c e fun a o e => q a o (s a o e)
  | ct r => exact fun Z' σ H c e q => h Z' σ H c e fun a o e => q a o (s a o e)
theorem SCfg.step {Z0 H0 : Hp} {r : Env} {Z H Z' H' : Hp} {σ : L2.St} (c : SCfg g Z0 H0 r Z σ H) (s : Step g Z H Z' H') : SCfg g Z0 H0 r Z' σ H' := ⟨c.cfg.step s, c.stp.trans s, c.own0, c.dist⟩
theorem SCfg.sub {Z0 H0 : Hp} {r r2 : Env} {Z H : Hp} {σ σ2 : L2.St} (c : SCfg g Z0 H0 r Z σ H) (c2 : Cfg g r2 Z σ2 H) (os : OwnSub r σ r2 σ2) : SCfg g Z0 H0 r2 Z σ2 H := by
  refine ⟨c2, c.stp, fun i xs a h1 h2 => ?_, fun i j xs ys a hij h1 h2 h3 h4 => ?_⟩
  · obtain ⟨k1, k2⟩ := os i xs h1
    exact c.own0 i xs a k1 (by rw [← k2]; exact h2)
  · obtain ⟨k1, k2⟩ := os i xs h1
    obtain ⟨k3, k4⟩ := os j ys h2
    exact c.dist i j xs ys a hij k1 k3 (by rw [← k2]; exact h3) (by rw [← k4]; exact h4)
theorem SCfg.setVal {Z0 H0 : Hp} {r : Env} {Z H : Hp} {σ : L2.St} {i : Nat} {d : D} {v : V} (c : SCfg g Z0 H0 r Z σ H) (h : Rep g Z v d) : SCfg g Z0 H0 (r.set i (.val d)) Z (σ.set i (some v)) H :=
  c.sub (c.cfg.set ⟨v, rfl, h⟩) ownSub_set
theorem get_own {Z H : Hp} {r : Env} {σ : L2.St} (c : Cfg g r Z σ H) {i : Nat} {xs : List D} (h : r[i]? = some (.own xs)) : ∃ a vs, σ[i]? = some (some (.ref a)) ∧ H a = some (.lst vs) ∧ vs.length ≤ sizeLine ∧ ¬ g.F a ∧ Z a = none ∧ Reps g Z vs xs := by
  obtain ⟨o, h1, a, vs, rfl, h2⟩ := c.slot i _ h
  exact ⟨a, vs, h1, h2⟩
/-- a list of this def's becomes one's own -/
theorem SCfg.putOwn {Z0 H0 : Hp} {r : Env} {Z1 H1 : Hp} {σ : L2.St} {i : Nat} {xs : List D} {a : Addr} {vs : List V} (c1 : SCfg g Z0 H0 r Z1 σ H1) (h1 : H1 a = some (.lst vs)) (h2 : vs.length ≤ sizeLine) (h3 : ¬ g.F a) (h4 : Z1 a = none) (h5 : H0 a = none)
    (h6 : Reps g Z1 vs xs) (hne : ∀ (k : Nat) (ys : List D) (b : Addr), r[k]? = some (.own ys) → σ[k]? = some (some (.ref b)) → b ≠ a) : SCfg g Z0 H0 (r.set i (.own xs)) Z1 (σ.set i (some (.ref a))) H1 := by
  have spl : ∀ (k : Nat) (ys : List D) (b : Addr), (r.set i (Sl.own xs))[k]? = some (.own ys) → (σ.set i (some (V.ref a)))[k]? = some (some (.ref b)) → (k = i ∧ b = a) ∨ (k ≠ i ∧ r[k]? = some (.own ys) ∧ σ[k]? = some (some (.ref b))) := fun k ys b e1 e2 => by
    rw [List.getElem?_set] at e1 e2
    by_cases e : i = k
    · rw [if_pos e] at e1 e2
      left
      refine ⟨e.symm, ?_⟩
      split at e2
      · cases e2; rfl
      · cases e2
    · rw [if_neg e] at e1 e2
      exact .inr ⟨fun z => e z.symm, e1, e2⟩
  refine ⟨c1.cfg.set ⟨a, vs, rfl, h1, h2, h3, h4, h6⟩, c1.stp, fun k ys b e1 e2 => ?_, fun j k ys zs b hjk e1 e2 e3 e4 => ?_⟩
  · rcases spl k ys b e1 e2 with ⟨rfl, rfl⟩ | ⟨_, e1, e2⟩
    · exact h5
    · exact c1.own0 k ys b e1 e2
  · rcases spl j ys b e1 e3 with ⟨rfl, rfl⟩ | ⟨n1, e1, e3⟩
    · rcases spl k zs b e2 e4 with ⟨rfl, _⟩ | ⟨n2, e2, e4⟩
      · exact hjk rfl
      · exact hne k zs b e2 e4 rfl
    · rcases spl k zs b e2 e4 with ⟨rfl, rfl⟩ | ⟨n2, e2, e4⟩
      · exact hne j ys b (by assumption) (by assumption) rfl
      · exact c1.dist j k ys zs b hjk e1 e2 e3 e4
theorem SCfg.new0 {Z0 H0 : Hp} {r : Env} {Z H : Hp} {σ : L2.St} {a : Addr} (c : SCfg g Z0 H0 r Z σ H) (h3 : ¬ g.F a) (h5 : H a = none) : H0 a = none := by
  rcases none_or (H := H0) (a := a) with e | ⟨u, e⟩
  · exact e
  · rw [c.stp.h _ _ e h3] at h5; cases h5
theorem SCfg.newNe {Z0 H0 : Hp} {r : Env} {Z H : Hp} {σ : L2.St} {a : Addr} (c : SCfg g Z0 H0 r Z σ H) (h5 : H a = none) : ∀ (k : Nat) (ys : List D) (b : Addr), r[k]? = some (.own ys) → σ[k]? = some (some (.ref b)) → b ≠ a := fun k ys b e1 e2 z => by
  obtain ⟨b', vs', q1, q2, _⟩ := get_own c.cfg e1
  rw [e2] at q1; cases q1
  rw [z, h5] at q2; cases q2
theorem SCfg.setOwn {Z0 H0 : Hp} {r : Env} {Z H Z1 H1 : Hp} {σ : L2.St} {i : Nat} {xs : List D} {a : Addr} {vs : List V} (c : SCfg g Z0 H0 r Z σ H) (s : Step g Z H Z1 H1) (h1 : H1 a = some (.lst vs)) (h2 : vs.length ≤ sizeLine) (h3 : ¬ g.F a) (h4 : Z1 a = none) (h5 : H a = none)
    (h6 : Reps g Z1 vs xs) : SCfg g Z0 H0 (r.set i (.own xs)) Z1 (σ.set i (some (.ref a))) H1 :=
  (c.step s).putOwn h1 h2 h3 h4 (c.new0 h3 h5) h6 (c.newNe h5)
/-- several values at once -/
def setσ : List Nat → List V → L2.St → L2.St
  | i :: is, v :: vs, σ => setσ is vs (σ.set i (some v))
  | _, _, σ => σ
theorem SCfg.setMany {Z0 H0 H : Hp} {Z1 H1 : Hp} (h0 : ∀ a, ¬ g.F a → H a = none → H0 a = none) : ∀ (is : List Nat) (vs : List V) (ds : List D) (r r2 : Env) (σ : L2.St), SCfg g Z0 H0 r Z1 σ H1 → RepRs g H Z1 H1 vs ds → NewD vs ds →
    (∀ (m k : Nat) (xs ys : List D) (b : Addr), ds[m]? = some (.new xs) → vs[m]? = some (.ref b) → r[k]? = some (.own ys) → σ[k]? ≠ some (some (.ref b))) → parT is ds r = some r2 → SCfg g Z0 H0 r2 Z1 (setσ is vs σ) H1
  | [], _, [], r, _, σ, c, .nil, _, _, e => by
    cases e
    exact c
  | _ :: _, _, [], r, _, σ, c, .nil, _, _, e => by cases e
  | [], _, d :: ds, r, _, σ, c, .cons _ _, _, _, e => by cases e
  | i :: is, _, d :: ds, r, r2, σ, c, .cons (v := v) (vs := vs) rv rs, nd, hn, e => by
    unfold parT at e
    have nx : ∀ (s : Sl), (∀ (m k : Nat) (xs ys : List D) (b : Addr), ds[m]? = some (.new xs) → vs[m]? = some (.ref b) → (r.set i s)[k]? = some (.own ys) → (σ.set i (some v))[k]? ≠ some (some (.ref b))) → SCfg g Z0 H0 (r.set i s) Z1 (σ.set i (some v)) H1 → parT is ds (r.set i s) = some r2 → SCfg g Z0 H0 r2 Z1 (setσ (i :: is) (v :: vs) σ) H1 := fun s h c2 e2 =>
      SCfg.setMany h0 is vs ds _ r2 _ c2 rs nd.2 h e2
    have old : ∀ (dd : D), (∀ (m k : Nat) (xs ys : List D) (b : Addr), ds[m]? = some (.new xs) → vs[m]? = some (.ref b) → (r.set i (.val dd))[k]? = some (.own ys) → (σ.set i (some v))[k]? ≠ some (some (.ref b))) := fun dd m k xs ys b e1 e2 e3 e4 => by
      obtain ⟨k1, k2⟩ := ownSub_set (σ := σ) (o := some v) k ys e3
      exact hn (m + 1) k xs ys b (by simpa using e1) (by simpa using e2) k1 (by rw [← k2]; exact e4)
    cases d <;> first
      | (cases e; done)
      | exact nx _ (old _) (c.setVal rv) e
      | skip
    rename_i xs0
    obtain ⟨p, ws, rfl, h1, h2, h3, h4, h5, h6⟩ := rv
    refine nx (.own xs0) (fun m k xs ys b e1 e2 e3 e4 => ?_) (c.putOwn h1 h2 h3 h4 (h0 p h3 h5) h6 fun k ys b e1 e2 z => ?_) e
    · rw [List.getElem?_set] at e3 e4
      by_cases hk : i = k
      · rw [if_pos hk] at e3 e4
        split at e4
        · cases e4
          exact nd.1 xs0 rfl m xs e1 e2
        · cases e4
      · rw [if_neg hk] at e3 e4
        exact hn (m + 1) k xs ys b (by simpa using e1) (by simpa using e2) e3 e4
    · subst z
      exact hn 0 k xs0 ys b rfl rfl e1 e2
/-- one's own list changes -/
theorem SCfg.mut {Z0 H0 : Hp} {r : Env} {Z H : Hp} {σ : L2.St} {i : Nat} {xs ys : List D} {a : Addr} {ws : List V} (c : SCfg g Z0 H0 r Z σ H) (e : r[i]? = some (.own xs)) (ea : σ[i]? = some (some (.ref a))) (hl : ws.length ≤ sizeLine) (h : Reps g Z ws ys) :
    SCfg g Z0 H0 (r.set i (.own ys)) Z σ (upd H a (.lst ws)) := by
  obtain ⟨a', vs, q1, q2, q3, q4, q5, q6⟩ := get_own c.cfg e
  rw [ea] at q1; cases q1
  have hZ : Sub Z (upd H a (.lst ws)) := fun b o eb => by rw [upd_ne (ne_of_none eb q5)]; exact c.cfg.pre.zh b o eb
  have gd : g.good (upd H a (.lst ws)) := good_upd c.cfg.pre q4 (fun f z => by rw [q2] at z; cases z) fun _ z => by cases z
  have h0 : H0 a = none := c.own0 i xs a e ea
  have st : Step g Z0 H0 Z (upd H a (.lst ws)) := ⟨c.stp.z, hZ, fun b o eb f => by rw [upd_ne (ne_of_none eb h0)]; exact c.stp.h b o eb f, c.stp.new, c.stp.zf, gd⟩
  have spl : ∀ (k : Nat) (zs : List D), (r.set i (Sl.own ys))[k]? = some (.own zs) → k = i ∨ (k ≠ i ∧ r[k]? = some (.own zs)) := fun k zs e1 => by
    rw [List.getElem?_set] at e1
    by_cases e : i = k
    · exact .inl e.symm
    · rw [if_neg e] at e1
      exact .inr ⟨fun z => e z.symm, e1⟩
  refine ⟨⟨⟨hZ, c.cfg.pre.zf, gd⟩, by rw [List.length_set]; exact c.cfg.len, fun k s ek => ?_⟩, st, fun k zs b e1 e2 => ?_, fun j k ys' zs b hjk e1 e2 e3 e4 => ?_⟩
  · rw [List.getElem?_set] at ek
    by_cases hk : i = k
    · subst hk
      rw [if_pos rfl] at ek
      split at ek
      · cases ek
        exact ⟨_, ea, a, ws, rfl, upd_same, hl, q4, q5, h⟩
      · cases ek
    · rw [if_neg hk] at ek
      obtain ⟨o, k1, k2⟩ := c.cfg.slot k s ek
      refine ⟨o, k1, ?_⟩
      cases s with
      | un => trivial
      | val d => exact k2
      | own zs =>
        obtain ⟨b, vs', rfl, m1, m2⟩ := k2
        have hba : b ≠ a := fun z => c.dist i k xs zs a hk e ek ea (by rw [← z]; exact k1)
        exact ⟨b, vs', rfl, by rw [upd_ne hba]; exact m1, m2⟩
      | fns tag =>
        obtain ⟨b, vs', ks, rfl, m1, m2, m3, m4⟩ := k2
        exact ⟨b, vs', ks, rfl, m1, m2, m3, m4.ext fun b φ eb => by
          rw [upd_ne (fun z => by rw [z, q2] at eb; cases eb)]
          exact eb⟩
  · rcases spl k zs e1 with rfl | ⟨_, e1⟩
    · rw [ea] at e2; cases e2
      exact h0
    · exact c.own0 k zs b e1 e2
  · rcases spl j ys' e1 with rfl | ⟨n1, e1⟩
    · rcases spl k zs e2 with rfl | ⟨n2, e2⟩
      · exact hjk rfl
      · exact c.dist j k xs zs b hjk e e2 e3 e4
    · rcases spl k zs e2 with rfl | ⟨n2, e2⟩
      · exact c.dist j k ys' xs b hjk (by assumption) e e3 e4
      · exact c.dist j k ys' zs b hjk e1 e2 e3 e4
/-- one's own list becomes everybody's -/
theorem SCfg.frz {Z0 H0 : Hp} {r : Env} {Z H : Hp} {σ : L2.St} {i : Nat} {xs : List D} (c : SCfg g Z0 H0 r Z σ H) (e : r[i]? = some (.own xs)) : ∃ Z', SCfg g Z0 H0 (r.set i (.val (.lst xs))) Z' σ H ∧ Sub Z Z' := by
  obtain ⟨a, vs, q1, q2, q3, q4, q5, q6⟩ := get_own c.cfg e
  have h0 : H0 a = none := c.own0 i xs a e q1
  have st := c.stp.freeze h0 q2 q5 q4
  have sz : Sub Z (upd Z a (.lst vs)) := sub_new q5
  have spl : ∀ (k : Nat) (zs : List D), (r.set i (Sl.val (.lst xs)))[k]? = some (.own zs) → k ≠ i ∧ r[k]? = some (.own zs) := fun k zs e1 => by
    rw [List.getElem?_set] at e1
    by_cases e : i = k
    · rw [if_pos e] at e1
      split at e1 <;> cases e1
    · rw [if_neg e] at e1
      exact ⟨fun z => e z.symm, e1⟩
  refine ⟨upd Z a (.lst vs), ⟨⟨st.pre, by rw [List.length_set]; exact c.cfg.len, fun k s ek => ?_⟩, st, fun k zs b e1 e2 => c.own0 k zs b (spl k zs e1).2 e2, fun j k ys zs b hjk e1 e2 e3 e4 => c.dist j k ys zs b hjk (spl j ys e1).2 (spl k zs e2).2 e3 e4⟩, sz⟩
  rw [List.getElem?_set] at ek
  by_cases hk : i = k
  · subst hk
    rw [if_pos rfl] at ek
    split at ek
    · cases ek
      exact ⟨_, q1, _, rfl, .lst upd_same q3 (q6.mono sz)⟩
    · cases ek
  · rw [if_neg hk] at ek
    obtain ⟨o, k1, k2⟩ := c.cfg.slot k s ek
    refine ⟨o, k1, ?_⟩
    cases s with
    | un => trivial
    | val d => obtain ⟨v, m1, m2⟩ := k2; exact ⟨v, m1, m2.mono sz⟩
    | own zs =>
      obtain ⟨b, vs', rfl, m1, m2, m3, m4, m5⟩ := k2
      have hba : b ≠ a := fun z => c.dist i k xs zs a hk e ek q1 (by rw [← z]; exact k1)
      exact ⟨b, vs', rfl, m1, m2, m3, by rw [upd_ne hba]; exact m4, m5.mono sz⟩
    | fns tag =>
      obtain ⟨b, vs', ks, rfl, m1, m2, m3, m4⟩ := k2
      exact ⟨b, vs', ks, rfl, sz _ _ m1, m2, m3, m4⟩

section
variable {W : Nat → Hp → Prop} {Z0 H0 : Hp} {te : TE} {e : Env → T D} {tt : TT} {b : Env → T Bool} {t1 t2 : TS} {f1 f2 : Env → T Fl}
/-- an expression ahead of what a statement does -/
theorem SimS.ofE {k : D → Env → T Fl} {kk : Ends → L2.St → V → Hp → Prop} (h : SimE g W te e) {t : TS} (ht : ∀ Dn σ H, te σ H (fun x H1 => kk Dn σ x H1) → t Dn σ H)
    (q : ∀ (r : Env) (Z : Hp) (σ : L2.St) (H : Hp) (Dn : Ends), SCfg g Z0 H0 r Z σ H → ∀ d v Z' H', Step g Z H Z' H' → RepR g H Z' H' v d → (k d r).All (PostF g Z0 H0 Z Dn) (PostE g Z0 H0 W) (g.bud H') → kk Dn σ v H') :
    SimS g W Z0 H0 t fun r => e r >>= fun d => k d r := by
  intro r Z σ H Dn c a
  rw [all_bind] at a
  refine ht Dn σ H (h r Z σ H _ c.cfg (All.mono a (fun d h1 v Z' H' s e rr => by subst e; exact q r Z σ H Dn c d v Z' H' s rr h1) fun _ x => x.shift c.stp))
theorem simS_asg {i : Nat} (h : SimE g W te e) : SimS g W Z0 H0 (tAsg te (gName i)) fun r => e r >>= fun d => slOf d >>= fun s => .ret (.nx (r.set i s)) := by
  refine SimS.ofE (kk := fun Dn σ x H1 => Dn.nx (σ.set i (some x)) H1) h (fun _ _ _ h => h) fun r Z σ H Dn c d v Z' H' s rr a => ?_
  have c1 := c.step s
  cases d <;> first
    | exact a.elim
    | exact a Z' _ H' (c1.setVal rr) rfl s.z
    | (obtain ⟨p, vs, rfl, h1, h2, h3, h4, h5, h6⟩ := rr; exact a Z' _ H' (c.setOwn s h1 h2 h3 h4 h5 h6) rfl s.z)
theorem simS_asgF {i : Nat} (h : SimE g W te e) : SimS g W Z0 H0 (tAsg te (gName i)) fun r => e r >>= fun d => fz d >>= fun d => .ret (.nx (r.set i (.val d))) := by
  refine SimS.ofE (kk := fun Dn σ x H1 => Dn.nx (σ.set i (some x)) H1) h (fun _ _ _ h => h) fun r Z σ H Dn c d v Z' H' s rr a => ?_
  rw [all_bind] at a
  obtain ⟨d', Z2, a2, s2, sz, r2⟩ := fz_ok s rr a
  exact a2 Z2 _ H' ((c.step s2).setVal r2) rfl s2.z
theorem simS_asgT {is : List Nat} {gt : TG} (hg : SimG g (.tp is) gt) (h : SimE g W te e) : SimS g W Z0 H0 (tAsg te gt) fun r => e r >>= fun d => match d with
    | .tup ds => ofO (setAll is ds r) >>= fun r2 => .ret (.nx r2)
    | _ => .bad := by
  refine SimS.ofE (kk := fun Dn σ x H1 => gt x σ H1 Dn.nx) h (fun _ _ _ h => h) fun r Z σ H Dn c d v Z' H' s rr a => ?_
  cases d <;> first
    | exact a.elim
    | skip
  rename_i ds
  rw [all_bind] at a
  obtain ⟨r2, e2, a2⟩ := ofO_ok a
  have c1 := c.step s
  have eb : bindTg (.tp is) (.tup ds) r = .ret r2 := by
    show ofO (setAll is ds r) = _
    rw [e2]; rfl
  exact hg v _ r r2 Z' σ H' _ c1.cfg rr eb fun σ2 c2 _ os => a2 Z' σ2 H' (c1.sub c2 os) rfl s.z
theorem simS_expr (h : SimE g W te e) : SimS g W Z0 H0 (tDrop te) fun r => e r >>= fun _ => .ret (.nx r) :=
  SimS.ofE (kk := fun Dn σ _ H1 => Dn.nx σ H1) h (fun _ _ _ h => h) fun r Z σ H Dn c d v Z' H' s rr a => a Z' σ H' (c.step s) rfl s.z
theorem simS_ret (h : SimE g W te e) : SimS g W Z0 H0 (tRet te) fun r => e r >>= fun d => match d with
    | .bor _ => .bad
    | d => .ret (.rt d) := by
  refine SimS.ofE (kk := fun Dn σ x H1 => Dn.rt x H1) h (fun _ _ _ h => h) fun r Z σ H Dn c d v Z' H' s rr a => ?_
  have key : ∀ d', RepR g H Z' H' v d' → Post g Z0 H0 Dn.rt (g.bud H') d' → Dn.rt v H' := fun d' r' q => q v Z' H' (c.stp.trans s) rfl (r'.back c.stp)
  cases d <;> first
    | exact a.elim
    | exact key _ rr a
/-- return x, x one's own list or a value -/
theorem simS_retV {i : Nat} : SimS g W Z0 H0 (tRet (tVar i)) fun r => match r[i]? with
    | some (.own xs) => .ret (.rt (.new xs))
    | some (.val d) => .ret (.rt d)
    | _ => .bad := by
  intro r Z σ H Dn c a
  cases e : r[i]? with
  | none => simp only [e] at a; exact a.elim
  | some sl =>
    simp only [e] at a
    cases sl with
    | un => exact a.elim
    | val d =>
      obtain ⟨o, h1, v, rfl, h2⟩ := c.cfg.slot i _ e
      exact ⟨v, h1, a v Z H c.stp rfl (.of h2)⟩
    | own xs =>
      obtain ⟨p, vs, q1, q2, q3, q4, q5, q6⟩ := get_own c.cfg e
      exact ⟨_, q1, a _ Z H c.stp rfl ⟨p, vs, rfl, q2, q3, q4, q5, c.own0 i xs p e q1, q6⟩⟩
    | fns tag => exact a.elim
theorem simS_seq (h1 : SimS g W Z0 H0 t1 f1) (h2 : SimS g W Z0 H0 t2 f2) : SimS g W Z0 H0 (tSeq t1 t2) fun r => f1 r >>= fun fl => match fl with
    | .nx r2 => f2 r2
    | f => .ret f := by
  intro r Z σ H Dn c a
  rw [all_bind] at a
  refine h1 r Z σ H _ c (All.mono a (fun fl q => ?_) fun _ x => x)
  cases fl with
  | nx r2 => exact fun Z' σ' H' c' e sz => by subst e; exact h2 r2 Z' σ' H' Dn c' (All.mono q (fun _ x => x.shift sz) fun _ x => x)
  | rt d => exact q
  | bk r2 => exact q
  | ct r2 => exact q
theorem simS_if (hb : SimB g W tt b) (h1 : SimS g W Z0 H0 t1 f1) (h2 : SimS g W Z0 H0 t2 f2) : SimS g W Z0 H0 (tIfS tt t1 t2) fun r => b r >>= fun k => if k = true then f1 r else f2 r := by
  intro r Z σ H Dn c a
  rw [all_bind] at a
  refine hb r Z σ H _ c.cfg (All.mono a (fun k q Z' H' s e => ?_) fun _ x => x.shift c.stp)
  subst e
  cases k with
  | true =>
    rw [if_pos rfl] at q
    show (if true = true then _ else _)
    rw [if_pos rfl]
    exact h1 r Z' σ H' Dn (c.step s) (All.mono q (fun _ x => x.shift s.z) fun _ x => x)
  | false =>
    rw [if_neg Bool.false_ne_true] at q
    show (if false = true then _ else _)
    rw [if_neg Bool.false_ne_true]
    exact h2 r Z' σ H' Dn (c.step s) (All.mono q (fun _ x => x.shift s.z) fun _ x => x)
theorem simS_for {wi : TI} {ei : Env → T (List D)} {tg : Tg} {gt : TG} (hi : SimI g W wi ei) (hg : SimG g tg gt) (hb : SimS g W Z0 H0 t1 f1) : SimS g W Z0 H0 (tFor wi gt t1) fun r => ei r >>= fun ds => forL (bindTg tg) f1 ds r := by
  intro r Z σ H Dn c a
  rw [all_bind] at a
  refine hi r Z σ H _ c.cfg (All.mono a (fun ds q J Z1 H1 s1 e1 wd _ => ?_) fun _ x => x.shift c.stp)
  subst e1
  obtain ⟨Gd, Y, wk, hGd, hY⟩ := wd
  refine for_it wk (fun i σ2 H2 => ∃ r2 Z2, SCfg g Z0 H0 r2 Z2 σ2 H2 ∧ Sub Z1 Z2 ∧ (forL (bindTg tg) f1 (ds.drop i) r2).All (PostF g Z0 H0 Z2 Dn) (PostE g Z0 H0 W) (g.bud H2)) ?_ ?_ ?_ ?_
  · refine ⟨r, Z1, c.step s1, fun _ _ e => e, ?_⟩
    rw [List.drop_zero]
    exact All.mono q (fun _ x => x.shift s1.z) fun _ x => x
  · rintro i σ2 H2 _ ⟨r2, Z2, c2, sz, _⟩
    exact hGd H2 fun a o e => c2.cfg.pre.zh a o (sz a o e)
  · rintro i x σ2 H2 H3 hlt ⟨r2, Z2, c2, sz, a2⟩ y
    obtain ⟨Z3, d, ed, s3, eb3, rd⟩ := hY i Z2 H2 x H3 hlt sz c2.cfg.pre y
    rw [← eb3] at a2
    have hdrop : ds.drop i = d :: ds.drop (i + 1) := by
      obtain ⟨hl, e⟩ := List.getElem?_eq_some_iff.mp ed
      rw [List.drop_eq_getElem_cons hl, e]
    rw [hdrop] at a2
    unfold forL at a2
    have c3 := c2.step s3
    cases eb : bindTg tg d r2 with
    | err _ => rw [eb] at a2; cases tg with
      | nm i => cases eb
      | tp is =>
        cases d <;> first
          | (cases eb; done)
          | (rename_i xs; have eb : ofO (setAll is xs r2) = _ := eb; cases q : setAll is xs r2 <;> rw [q] at eb <;> cases eb)
    | bad => rw [eb] at a2; exact a2.elim
    | draw n k => cases tg with
      | nm i => cases eb
      | tp is =>
        cases d <;> first
          | (cases eb; done)
          | (rename_i xs; have eb : ofO (setAll is xs r2) = _ := eb; cases q : setAll is xs r2 <;> rw [q] at eb <;> cases eb)
    | ret r3 =>
      rw [eb, ret_bind, all_bind] at a2
      refine hg x d r2 r3 Z3 σ2 H3 _ c3.cfg rd eb fun σ3 c4 _ os => ?_
      have c5 := c3.sub c4 os
      refine hb r3 Z3 σ3 H3 _ c5 (All.mono a2 (fun fl q => ?_) fun _ x => x)
      have sub3 : Sub Z1 Z3 := fun a o e => s3.z a o (sz a o e)
      cases fl with
      | nx r4 => exact fun Z' σ' H' c' e' sz' => by subst e'; exact ⟨r4, Z', c', fun a o e => sz' a o (sub3 a o e), All.mono q (fun _ x => x.shift fun a o e => sz' a o (s3.z a o e)) fun _ x => x⟩
      | ct r4 => exact fun Z' σ' H' c' e' sz' => by subst e'; exact ⟨r4, Z', c', fun a o e => sz' a o (sub3 a o e), All.mono q (fun _ x => x.shift fun a o e => sz' a o (s3.z a o e)) fun _ x => x⟩
      | bk r4 => exact fun Z' σ' H' c' e' sz' => q Z' σ' H' c' e' fun a o e => sz' a o (s3.z a o e)
      | rt v => exact q
  · rintro σ2 H2 ⟨r2, Z2, c2, sz, a2⟩
    rw [List.drop_length] at a2
    exact a2 Z2 σ2 H2 c2 rfl fun _ _ e => e
theorem simS_while (hb : SimB g W tt b) (h1 : SimS g W Z0 H0 t1 f1) : SimS g W Z0 H0 (tWhile tt t1) fun r => whileL b f1 wh r := by
  intro r Z σ H Dn c a
  refine ⟨fun m σ2 H2 => ∃ r2 Z2, SCfg g Z0 H0 r2 Z2 σ2 H2 ∧ (whileL b f1 m r2).All (PostF g Z0 H0 Z2 Dn) (PostE g Z0 H0 W) (g.bud H2), ⟨wh, r, Z, c, a⟩, ?_⟩
  rintro m σ2 H2 ⟨r2, Z2, c2, a2⟩
  cases m with
  | zero => exact a2.elim
  | succ m =>
    unfold whileL at a2
    rw [all_bind] at a2
    refine hb r2 Z2 σ2 H2 _ c2.cfg (All.mono a2 (fun k q Z' H' s e => ?_) fun _ x => x.shift c2.stp)
    subst e
    have c3 := c2.step s
    cases k with
    | true =>
      rw [if_pos rfl, all_bind] at q
      show (if true = true then _ else _)
      rw [if_pos rfl]
      refine ⟨fun σ' H' => ∃ r2 Z2, SCfg g Z0 H0 r2 Z2 σ' H' ∧ (whileL b f1 m r2).All (PostF g Z0 H0 Z2 Dn) (PostE g Z0 H0 W) (g.bud H'), fun σ' H' w => ⟨m, Nat.lt_succ_self m, w⟩, ?_⟩
      refine h1 r2 Z' σ2 H' _ c3 (All.mono q (fun fl q => ?_) fun _ x => x)
      cases fl with
      | nx r4 => exact fun Z'' σ' H'' c' e' sz' => by subst e'; exact ⟨r4, Z'', c', All.mono q (fun _ x => x.shift fun a o e => sz' a o (s.z a o e)) fun _ x => x⟩
      | ct r4 => exact fun Z'' σ' H'' c' e' sz' => by subst e'; exact ⟨r4, Z'', c', All.mono q (fun _ x => x.shift fun a o e => sz' a o (s.z a o e)) fun _ x => x⟩
      | bk r4 => exact fun Z'' σ' H'' c' e' sz' => q Z'' σ' H'' c' e' fun a o e => sz' a o (s.z a o e)
      | rt v => exact q
    | false =>
      rw [if_neg Bool.false_ne_true] at q
      show (if false = true then _ else _)
      rw [if_neg Bool.false_ne_true]
      exact q Z' σ2 H' c3 rfl s.z
theorem RepRs.length {H Z' H' : Hp} : ∀ {vs : List V} {ds : List D}, RepRs g H Z' H' vs ds → vs.length = ds.length
  | _, _, .nil => rfl
  | _, _, .cons _ t => congrArg Nat.succ (RepRs.length t)
theorem parT_len : ∀ {is : List Nat} {ds : List D} {r r2 : Env}, parT is ds r = some r2 → ds.length = is.length
  | [], [], _, _, _ => rfl
  | [], _ :: _, _, _, e => by cases e
  | _ :: _, [], _, _, e => by cases e
  | i :: is, d :: ds, r, r2, e => by
    unfold parT at e
    split at e
    · exact congrArg Nat.succ (parT_len e)
    · cases e
theorem simS_par {is : List Nat} {ta : TA} {ea : Env → T (List D)} {t : TS} {K : Ends → L2.St → List V → Hp → Prop} (h : SimR g W ta ea) (ht : ∀ (Dn : Ends) σ H, ta σ H (K Dn σ) → t Dn σ H)
    (hK : ∀ (Dn : Ends) (σ : L2.St) (vs : List V) (H1 : Hp), vs.length = is.length → Dn.nx (setσ is vs σ) H1 → K Dn σ vs H1) :
    SimS g W Z0 H0 t fun r => ea r >>= fun ds => ofO (parT is ds r) >>= fun r2 => .ret (.nx r2) := by
  intro r Z σ H Dn c a
  rw [all_bind] at a
  refine ht Dn σ H (h r Z σ H _ c.cfg (All.mono a (fun ds a1 vs Z' H' s e' rr nd => ?_) fun _ x => x.shift c.stp))
  subst e'
  rw [all_bind] at a1
  obtain ⟨r2, e, a2⟩ := ofO_ok a1
  refine hK Dn σ vs H' (rr.length.trans (parT_len e)) ?_
  refine a2 Z' _ H' (SCfg.setMany (fun a nf hn => c.new0 nf hn) is vs ds r r2 σ (c.step s) rr nd (fun m k xs ys b e1 e2 e3 e4 => ?_) e) rfl s.z
  obtain ⟨v, q1, q2⟩ := rr.get e1
  rw [e2] at q1; cases q1
  obtain ⟨p, ws, ep, _, _, _, _, h5, _⟩ := q2
  cases ep
  exact c.newNe h5 k ys b e3 e4 rfl
/-- x.append(e) -/
theorem simS_app {i : Nat} (h : SimE g W te e) : SimS g W Z0 H0 (tDrop (tBM g.K "list" rAppend (tVar i) (tCons te tNil))) fun r => match r[i]? with
    | some (.own xs) => if xs.length < lim then e r >>= fun d => fz d >>= fun d => .ret (.nx (r.set i (.own (xs ++ [d])))) else .bad
    | _ => .bad := by
  intro r Z σ H Dn c a
  cases er : r[i]? with
  | none => simp only [er] at a; exact a.elim
  | some sl =>
    simp only [er] at a
    cases sl with
    | un => exact a.elim
    | val d => exact a.elim
    | fns tag => exact a.elim
    | own xs =>
      simp only at a
      split at a
      · rename_i hl
        obtain ⟨p, vs, q1, q2, q3, q4, q5, q6⟩ := get_own c.cfg er
        refine ⟨_, q1, .inl ⟨rfl, vs, .of q2⟩, ?_⟩
        rw [all_bind] at a
        refine h r Z σ H _ c.cfg (All.mono a (fun d a1 v Z' H' s e' rr => ?_) fun _ x => x.shift c.stp)
        subst e'
        rw [all_bind] at a1
        obtain ⟨d', Z2, a2, s2, sz, r2⟩ := fz_ok s rr a1
        have h' : H' p = some (.lst vs) := s.h _ _ q2 q4
        have hz : vs.length < sizeLine := by rw [q6.length, ← limLine]; exact hl
        refine ⟨p, vs, v, rfl, rfl, h', hz, ?_⟩
        exact a2 Z2 σ _ ((c.step s2).mut er q1 (by rw [List.length_append]; exact hz) ((q6.mono s2.z).append (.cons r2 .nil))) (bud_upd s.pre q4) s2.z
      · exact a.elim
/-- x[i] = e -/
theorem simS_sset {i : Nat} {ti : TE} {ei : Env → T D} (h : SimE g W te e) (hi : SimE g W ti ei) : SimS g W Z0 H0 (tAsg te (gSub (tVar i) ti rSetL)) fun r => match r[i]? with
    | some (.own xs) => e r >>= fun d => fz d >>= fun d => ei r >>= fun k => match k with
      | .int k => match L2.ixN xs.length k with
        | some j => .ret (.nx (r.set i (.own (xs.set j d))))
        | none => .bad
      | _ => .bad
    | _ => .bad := by
  intro r Z σ H Dn c a
  cases er : r[i]? with
  | none => simp only [er] at a; exact a.elim
  | some sl =>
    simp only [er] at a
    cases sl with
    | un => exact a.elim
    | val d => exact a.elim
    | fns tag => exact a.elim
    | own xs =>
      simp only at a
      rw [all_bind] at a
      refine h r Z σ H _ c.cfg (All.mono a (fun d a1 v Z' H' s e' rr => ?_) fun _ x => x.shift c.stp)
      subst e'
      rw [all_bind] at a1
      obtain ⟨d', Z2, a2, s2, sz, r2⟩ := fz_ok s rr a1
      have c2 := c.step s2
      obtain ⟨p, vs, q1, q2, q3, q4, q5, q6⟩ := get_own c2.cfg er
      refine ⟨_, q1, ?_⟩
      rw [all_bind] at a2
      refine hi r Z2 σ H' _ c2.cfg (All.mono a2 (fun k a3 vk Z3 H3 s3 e3 r3 => ?_) fun _ x => x.shift c2.stp)
      subst e3
      cases k <;> first
        | exact a3.elim
        | skip
      rename_i kk
      cases r3
      simp only at a3
      cases ej : L2.ixN xs.length kk with
      | none => simp only [ej] at a3; exact a3.elim
      | some j =>
        simp only [ej] at a3
        have h' : H3 p = some (.lst vs) := s3.h _ _ q2 q4
        refine ⟨p, vs, kk, j, rfl, rfl, h', by rw [q6.length]; exact ej, ?_⟩
        exact a3 Z3 σ _ ((c2.step s3).mut er q1 (by rw [List.length_set]; exact q3) ((q6.mono s3.z).set (r2.mono s3.z) j)) (bud_upd s3.pre q4) fun a o e => s3.z a o (s2.z a o e)
theorem simS_raise {cc : Nat} (h0 : True) : SimS g W Z0 H0 (fun _ σ H => (fun (cls : Value) (d : Option Addr) (_ : L2.St) (H : Hp) => ∃ c, cls = .ref (g.cad c) ∧ d = none ∧ W c H) (.ref (g.cad cc)) none σ H) fun _ => .err cc := by
  intro r Z σ H Dn c a
  exact ⟨cc, rfl, rfl, a Z H c.stp rfl⟩
theorem simS_frz {i : Nat} {t : TS} {f : Env → T Fl} (h : SimS g W Z0 H0 t f) : SimS g W Z0 H0 t fun r => (match r[i]? with
    | some (.own xs) => .ret (.nx (r.set i (.val (.lst xs))))
    | some (.val _) => .ret (.nx r)
    | _ => .bad : T Fl) >>= fun fl => match fl with
    | .nx r2 => f r2
    | f => .ret f := by
  intro r Z σ H Dn c a
  cases er : r[i]? with
  | none => simp only [er] at a; exact a.elim
  | some sl =>
    simp only [er] at a
    cases sl with
    | un => exact a.elim
    | val d => exact h r Z σ H Dn c a
    | fns tag => exact a.elim
    | own xs =>
      obtain ⟨Z', c', sz⟩ := c.frz er
      exact h _ Z' σ H Dn c' (All.mono a (fun _ x => x.shift sz) fun _ x => x)
end
end
end PV
end
section
set_option maxHeartbeats 8000000
/-! PvS8: each statement by its term. -/
namespace PV
open PySem PySem.Spec PyProof.Rows L2

/-! ### which statement -/
def notComp : Expr → Bool
  | .ListComp .. => false | .SetComp .. => false | .DictComp .. => false | _ => true
/-- the names that are stored the other way round -/
def swNames (sc : Scope) (ts : List Expr) : List Str := ts.filterMap fun
  | .Name id pos => if sc.names.lookup id == some .local && pos.line == (ts.head?.map (·.pos.line)).getD 0 then some id else none
  | _ => none
def notTup (sc : Scope) (ts : List Expr) : Expr → Bool
  | .Tuple vs _ _ => !(ts.length == 2 || ts.length == 3) || ((swNames sc ts).length != ts.length || vs.all (foldedForSure 8))
  | _ => true
theorem not_swapped {sc : Scope} {env : PySem.Env} (h : env.scope = sc) {ts : List Expr} {k : Nat} {p : Pos} {v : Expr} (hb : notTup sc ts v = true) : swappedStores [.Tuple ts k p] v env = pure none := by
  cases v <;> first
    | rfl
    | skip
  rename_i vs k2 p2
  have hb : (!(ts.length == 2 || ts.length == 3) || ((swNames sc ts).length != ts.length || vs.all (foldedForSure 8))) = true := hb
  unfold swappedStores
  simp only []
  split
  · rfl
  · rename_i c1
    split
    · rfl
    · generalize hn : List.filterMap _ ts = nm
      have e : nm = swNames sc ts := by
        subst h
        exact hn.symm
      subst e
      split
      · rfl
      · rename_i c2
        split
        · rfl
        · rename_i c3
          exfalso
          simp only [Bool.or_eq_true, not_or] at hb c1 c2
          rcases hb with q | q | q
          · exact c1.1.1 q
          · exact c2.1 q
          · exact c3 q
/-- x = [..] is stored from within -/
def swB (sc : Scope) (x : Str) (p : Pos) : Expr → Bool
  | .ListComp _ _ scope pos => (sc.names.lookup x == some .local) && p.line == pos.line && !(scope.names.any fun (n, k) => n == x && (k == .local || k == .cell))
  | _ => false
def okV : Expr → Bool
  | .ListComp .. => true | .SetComp .. => false | .DictComp .. => false | _ => true
def par2B (sc : Scope) : List Expr → List Expr → Bool
  | [.Name x px, .Name y py], [a, b] => decide (sc.names.lookup x = some .local) && decide (sc.names.lookup y = some .local) && decide (px.line = py.line) && decide (x ≠ y) && plainE a && plainE b && !(foldedForSure 8 a && foldedForSure 8 b) && !(constantsAlone 8 a && constantsAlone 8 b)
  | [.Name x px, .Name y py, .Name z pz], [a, b, c] => decide (sc.names.lookup x = some .local) && decide (sc.names.lookup y = some .local) && decide (sc.names.lookup z = some .local) && decide (px.line = py.line) && decide (px.line = pz.line) && decide (x ≠ y) && decide (x ≠ z) && decide (y ≠ z) && plainE a && plainE b && plainE c &&
      !(foldedForSure 8 a && foldedForSure 8 b && foldedForSure 8 c) && !(constantsAlone 8 a && constantsAlone 8 b && constantsAlone 8 c)
  | _, _ => false
theorem par2_swapped {sc : Scope} {env : PySem.Env} (h : env.scope = sc) (hk : sc.kind = .function) {x y : Str} {px py p p2 : Pos} {a b : Expr} {k k2 : Nat} (hb : par2B sc [.Name x px, .Name y py] [a, b] = true) :
    swappedStores [.Tuple [.Name x px, .Name y py] k p] (.Tuple [a, b] k2 p2) env = pure (some [x, y]) := by
  simp only [par2B, Bool.and_eq_true, decide_eq_true_eq, Bool.not_eq_true', Bool.and_eq_false_iff] at hb
  obtain ⟨⟨⟨⟨⟨⟨⟨h1, h2⟩, h3⟩, h4⟩, h5⟩, h6⟩, h7⟩, h8⟩ := hb
  have kx : env.kindOf x = some .local := by show env.scope.names.lookup x = _; rw [h]; exact h1
  have ky : env.kindOf y = some .local := by show env.scope.names.lookup y = _; rw [h]; exact h2
  have hbk : env.blockKind = .function := by unfold PySem.Env.blockKind; rw [h, hk]; rfl
  have f1 : (foldedForSure 8 a && foldedForSure 8 b) = false := by rw [Bool.and_eq_false_iff]; exact h7
  have f2 : (constantsAlone 8 a && constantsAlone 8 b) = false := by rw [Bool.and_eq_false_iff]; exact h8
  have ne : (y == x) = false := beq_eq_false_iff_ne.mpr fun e => h4 e.symm
  unfold swappedStores
  simp [kx, ky, hbk, f1, f2, Expr.pos, h3, List.eraseDups, List.eraseDupsBy, List.eraseDupsBy.loop, ne]
  intro q
  exfalso
  rcases q with q | q
  · clear h7 h8 f1 f2
    cases a <;> first
      | exact (Bool.false_ne_true q).elim
      | exact (Bool.false_ne_true h5).elim
  · clear h7 h8 f1 f2
    cases b <;> first
      | exact (Bool.false_ne_true q).elim
      | exact (Bool.false_ne_true h6).elim
theorem par3_swapped {sc : Scope} {env : PySem.Env} (h : env.scope = sc) (hk : sc.kind = .function) {x y z : Str} {px py pz p p2 : Pos} {a b c : Expr} {k k2 : Nat} (hb : par2B sc [.Name x px, .Name y py, .Name z pz] [a, b, c] = true) :
    swappedStores [.Tuple [.Name x px, .Name y py, .Name z pz] k p] (.Tuple [a, b, c] k2 p2) env = pure (some [x, y, z]) := by
  simp only [par2B, Bool.and_eq_true, decide_eq_true_eq, Bool.not_eq_true', Bool.and_eq_false_iff] at hb
  obtain ⟨⟨⟨⟨⟨⟨⟨⟨⟨⟨⟨⟨h1, h2⟩, h2'⟩, h3⟩, h3'⟩, h4⟩, h4'⟩, h4''⟩, h5⟩, h6⟩, h6'⟩, h7⟩, h8⟩ := hb
  have kx : env.kindOf x = some .local := by show env.scope.names.lookup x = _; rw [h]; exact h1
  have ky : env.kindOf y = some .local := by show env.scope.names.lookup y = _; rw [h]; exact h2
  have kz : env.kindOf z = some .local := by show env.scope.names.lookup z = _; rw [h]; exact h2'
  have hbk : env.blockKind = .function := by unfold PySem.Env.blockKind; rw [h, hk]; rfl
  have f1 : (foldedForSure 8 a && (foldedForSure 8 b && foldedForSure 8 c)) = false := by rw [← Bool.and_assoc, Bool.and_eq_false_iff, Bool.and_eq_false_iff]; exact h7
  have f2 : (constantsAlone 8 a && (constantsAlone 8 b && constantsAlone 8 c)) = false := by rw [← Bool.and_assoc, Bool.and_eq_false_iff, Bool.and_eq_false_iff]; exact h8
  have ne : (y == x) = false := beq_eq_false_iff_ne.mpr fun e => h4 e.symm
  have ne2 : (z == x) = false := beq_eq_false_iff_ne.mpr fun e => h4' e.symm
  have ne3 : (z == y) = false := beq_eq_false_iff_ne.mpr fun e => h4'' e.symm
  unfold swappedStores
  simp [kx, ky, kz, hbk, f1, f2, Expr.pos, ← h3, ← h3', List.eraseDups, List.eraseDupsBy, List.eraseDupsBy.loop, ne, ne2, ne3]
  intro q
  exfalso
  rcases q with q | q | q
  · clear h7 h8 f1 f2
    cases a <;> first
      | exact (Bool.false_ne_true q).elim
      | exact (Bool.false_ne_true h5).elim
  · clear h7 h8 f1 f2
    cases b <;> first
      | exact (Bool.false_ne_true q).elim
      | exact (Bool.false_ne_true h6).elim
  · clear h7 h8 f1 f2
    cases c <;> first
      | exact (Bool.false_ne_true q).elim
      | exact (Bool.false_ne_true h6').elim
/-- .. by places -/
def parNB (ck : Ck) : List Nat → List Expr → Bool
  | [], [] => true
  | i :: is, .Name x _ :: es => decide (ck.N[i]? = some x) && parNB ck is es
  | _, _ => false
def isFrz : S → Bool
  | .frz _ => true | _ => false
def consB : List Stmt → (Stmt → Bool) → (List Stmt → Bool) → Bool
  | st :: sts, f, h => f st && h sts
  | [], _, _ => false
def lamsB (ck : Ck) (sc : Scope) : List X → List Expr → Bool
  | [], [] => true
  | b :: bs, .Lambda pa bo scp _ :: es => lamOkB ck sc b pa bo scp && lamsB ck sc bs es
  | _, _ => false
section
variable (ck : Ck)
mutual
def chkS : S → Scope → Stmt → Bool
  | .lams i tag, sc, .Assign [.Name x p] (.List es _) _ => nmB ck sc (fun _ => true) i (.Name x p) && decide (ck.lam = some sc) && decide (es.length ≤ 1000) && (match ck.ltab.lookup tag with
    | some bs => lamsB ck sc bs es
    | none => false)
  | .asg i e, sc, .Assign [.Name x p] v _ => nmB ck sc (fun _ => true) i (.Name x p) && okV v && chkE ck e sc v
  | .asgF i e, sc, .Assign [.Name x p] v _ => nmB ck sc (fun _ => true) i (.Name x p) && okV v && chkE ck e sc v
  | .asgT is e, sc, .Assign [.Tuple ts _ _] v _ => nmsB ck sc (fun _ => true) is ts && chkE ck e sc v && notComp v && notTup sc ts v
  | .par is es, sc, .Assign [.Tuple ts _ _] (.Tuple vs _ _) _ => par2B sc ts vs && parNB ck is ts && decide is.Nodup && chkR ck es sc vs
  | .expr e, sc, .Expr v _ => chkE ck e sc v && notComp v
  | .pass, _, .Expr (.Constant (.str _) _ _) _ => true
  | .pass, _, .Pass _ => true
  | .app i e, sc, .Expr (.Call (.Attribute (.Name x _) m apos) [v] [] cpos) _ => visB ck sc i x && decide (m = ("append" : Str)) && chkE ck e sc v && plainE v && (apos.endLine == cpos.line)
  | .sset i ix e, sc, .Assign [.Subscript (.Name x _) s _] v _ => visB ck sc i x && chkE ck ix sc s && plainIxB s && chkE ck e sc v && okV v
  | .iff t a b, sc, .If c x y _ => chkT ck t sc c && chkB a sc x && chkB b sc y
  | .for_ tg it body, sc, .For tge ite st [] _ => tgCell ck sc (fun _ => true) tg tge && notSetB ite && chkI ck it sc tge ite && chkB body sc st
  | .while_ t body, sc, .While c st [] _ => chkT ck t sc c && chkB body sc st
  | .ret e, sc, .Return (some v) _ => chkE ck e sc v
  | .retN, _, .Return none _ => true
  | .raise k, sc, .Raise (some (.Call (.Name x _) [.Constant (.str _) _ _] [] _)) none _ => glB sc x && decide ((k, x) ∈ ck.cls)
  | .brk, _, .Break _ => true
  | .cont, _, .Continue _ => true
  | _, _, _ => false
termination_by structural t => t
def chkB : S → Scope → List Stmt → Bool
  | .nil, _, [] => true
  | .cons s r, sc, sts => if isFrz s = true then chkB r sc sts else consB sts (chkS s sc) (chkB r sc)
  | _, _, _ => false
termination_by structural t => t
end
end

/-! ### contexts of a def's body -/
structure ClsE (g : G) (k : Nat) (x : Str) : Prop where
  mg : g.mg x = some (.ref (g.cad k))
  kp : PySem.W.keepIn g.K (.ref (g.cad k)) = true
  ex : PySem.W.excIn g.K (g.cad k) [.type "ValueError", .type "Exception", .type "BaseException", .type "object"] "ValueError.__new__" = true
  sub : PySem.W.subIn g.K (.ref (g.cad k)) (.type "BaseException") = some true
  ty : PySem.W.typeIn g.K (.ref (g.cad k)) = some (.type "type")
structure CtxD (g : GF) (ck : Ck) (sc : Scope) (W : Nat → Hp → Prop) (n : Nat) (C : Cx) : Prop where
  ok : CtxOk g ck sc W n C
  kind : sc.kind = .function
  po : PassesOwn (model C.prog C.w) C.A C.env C.xe
  fn : ∀ x, C.fn x = true
  cls : ∀ k x, (k, x) ∈ ck.cls → ClsE g k x
section
variable {g : GF} {ck : Ck} {n : Nat} {call : Nat → List D → T D} {wh : Nat} {C : Cx} {sc : Scope} {W : Nat → Hp → Prop} {Z0 H0 : Hp}
abbrev SS (g : GF) (C : Cx) (W : Nat → Hp → Prop) (Z0 H0 : Hp) (st : Stmt) (f : Env → T Fl) : Prop := ∃ t, PS C st t ∧ SimS g W Z0 H0 t f
abbrev SSs (g : GF) (C : Cx) (W : Nat → Hp → Prop) (Z0 H0 : Hp) (st : List Stmt) (f : Env → T Fl) : Prop := ∃ t, PSs C st t ∧ SimS g W Z0 H0 t f
theorem swaps_none {e : Expr} {t : Option Expr} {l : Nat} {env : PySem.Env} (h : notComp e = true) : swapsWith e t l env = pure false := by
  cases e <;> first
    | rfl
    | exact (Bool.false_ne_true h).elim
/-- the parts of a comprehension -/
theorem comp_parts (c : CtxOk g ck sc W n C) (F : Facts g ck call n) {e : X} {el : Expr} {gens : List Comprehension} {scope : Scope} {pos : Pos} (h : chkE ck e sc (.ListComp el gens scope pos) = true) :
    ∃ (tge ite : Expr) (ifs : List Expr) (own : List (Str × Nat)) (wi : TI) (gt : TG) (tt : TT) (te : TE), gens = [⟨tge, ite, ifs, 0⟩] ∧ PI C tge ite wi ∧ BlkOk C.N C.env.scope scope own ∧
      (∀ (s : Shared) (H : Hp) (A : Addr) (cl : List (Str × Addr)) (fp : List Addr), PG (C.blk s H scope (compEnvC scope cl A C.env) fp) tge gt) ∧
      (∀ (s : Shared) (H : Hp) (A : Addr) (cl : List (Str × Addr)) (fp : List Addr), PTs (C.blk s H scope (compEnvC scope cl A C.env) fp) ifs tt) ∧
      (∀ (s : Shared) (H : Hp) (A : Addr) (cl : List (Str × Addr)) (fp : List Addr), PE (C.blk s H scope (compEnvC scope cl A C.env) fp) el te) ∧
      (∀ x, foldedSetIterable ite C.env x = pure x) ∧ SimE g W (tLc wi gt tt te (own.map (·.2))) (ev call e) := by
  cases e <;> first
    | exact (Bool.false_ne_true h).elim
    | skip
  rename_i tg it cond elt own
  match gens, h with
  | [⟨tge, ite, ifs, asy⟩], h =>
    by_cases ha : asy = 0
    · subst ha
      have h : (blkC ck.N sc scope own && decide (ck.lam ≠ some (relS scope sc)) && tgCell ck (relS scope sc) (fun x => scope.names.lookup x == some .cell) tg tge && tgIn own tg && notSetB ite && chkI ck it sc tge ite && condB ifs (isYes cond) (chkT ck cond (relS scope sc)) && chkE ck elt (relS scope sc) el) = true := h
      simp only [Bool.and_eq_true] at h
      obtain ⟨⟨⟨⟨⟨⟨⟨h1, h0⟩, h2⟩, h3⟩, h4⟩, h5⟩, h6⟩, h7⟩ := h
      have h0 := of_decide_eq_true h0
      obtain ⟨wi, q1, q2⟩ := (sound F it).I C sc W _ _ c h5
      have hb : BlkOk C.N C.env.scope scope own := by
        rw [c.N, c.sc]
        exact blkOk_by h1
      obtain ⟨gt, hg, sg⟩ := tg_any c F h0 h2
      obtain ⟨te, he, se⟩ := E_any (sound F elt) c h0 h7
      have hc : ∃ tt, (∀ (s : Shared) (H : Hp) (A : Addr) (cl : List (Str × Addr)) (fp : List Addr), PTs (C.blk s H scope (compEnvC scope cl A C.env) fp) ifs tt) ∧ SimB g (fun _ _ => False) tt (evs call cond).B := by
        match ifs, h6 with
        | [], h6 =>
          cases cond <;> first
            | exact (Bool.false_ne_true h6).elim
            | exact ⟨_, fun _ _ _ _ _ => pts_nil, sim_yes⟩
        | [cc], h6 =>
          obtain ⟨tt, k1, k2⟩ := B_any (sound F cond) c h0 h6
          exact ⟨tt, fun s H A cl fp => pts_one (k1 s H A cl fp), k2⟩
        | _ :: _ :: _, h6 => exact (Bool.false_ne_true h6).elim
      obtain ⟨tt, ht, st⟩ := hc
      exact ⟨tge, ite, ifs, own, wi, gt, tt, te, rfl, q1, hb, hg, ht, he, notSet_ok h4, sim_comp q2 sg st se (tgIn_ok h3)⟩
    · exfalso
      match asy, ha, h with
      | .ofNat 0, ha, _ => exact ha rfl
      | .ofNat (_ + 1), _, h => exact Bool.false_ne_true h
      | .negSucc _, _, h => exact Bool.false_ne_true h
  | [], h => exact (Bool.false_ne_true h).elim
  | ⟨_, _, _, asy⟩ :: _ :: _, h =>
    exfalso
    match asy, h with
    | .ofNat 0, h => exact Bool.false_ne_true h
    | .ofNat (_ + 1), h => exact Bool.false_ne_true h
    | .negSucc _, h => exact Bool.false_ne_true h
/-- a row of lambdas -/
theorem pa_lams (c : CtxOk g ck sc W n C) (L : LamC g ck n C) : ∀ {bs : List X} {es : List Expr}, lamsB ck sc bs es = true → ∃ ta, PA C es ta ∧
    ∀ (r : Env) (Z : Hp) (σ : L2.St) (H : Hp) (Q : List V → Hp → Prop), Cfg g r Z σ H → (∀ vs H', Step g Z H Z H' → g.bud H' = g.bud H → FnsOk g H' vs bs → vs.length = es.length → Q vs H') → ta σ H Q
  | [], [], _ => ⟨_, pa_nil, fun r Z σ H Q c q => q [] H (.refl c.pre) rfl .nil rfl⟩
  | b :: bs, .Lambda pa bo scp p :: es, h => by
    have h : (lamOkB ck sc b pa bo scp && lamsB ck sc bs es) = true := h
    rw [Bool.and_eq_true] at h
    obtain ⟨ta, q1, q2⟩ := pa_lams c L h.2
    obtain ⟨cc, P, l1, l2, l3, l4⟩ := L.ex
    have hh := h.1
    unfold lamOkB at hh
    simp only [Bool.and_eq_true, decide_eq_true_eq] at hh
    obtain ⟨⟨⟨h5, h6⟩, h7⟩, h8⟩ := hh
    have e5 := noParams_ok h5
    subst e5
    have LS : LamX.LamS C.env.scope scp := by rw [c.sc]; exact LamX.lamS_by h6
    have nT : g.T ≠ [] := fun z => by rw [z] at l3; cases l3
    refine ⟨_, pa_cons (pe_lam0 (T := g.T) L.nex (by rw [c.base, c.mg]; exact l1) l2 l3 l4 LS rfl) q1, fun r Z σ H Q cfg q => ?_⟩
    refine ⟨g.gtb H cfg.pre.good, fun f c' H1 eN nn hh tb hf hc => ?_⟩
    obtain ⟨st, eb⟩ := Step.lam nT cfg.pre eN tb nn fun a ps e => by obtain ⟨q, e1⟩ := L.h0 a ps e; exact hh a q e1
    have s2 : Step g Z H1 Z (upd H1 f (FnO (C.env.qual ++ "<lambda>") ⟨[], [], none, [], [], none, []⟩ bo scp (cloFrom C.env.cells scp.names []) c' f)) := .newH st.pre hf fun _ z => by unfold FnO at z; cases z
    have b2 := bud_upd (o := FnO (C.env.qual ++ "<lambda>") ⟨[], [], none, [], [], none, []⟩ bo scp (cloFrom C.env.cells scp.names []) c' f) st.pre (st.pre.nF hf)
    refine q2 r Z σ _ _ (cfg.step (st.trans s2)) fun vs H3 s3 e3 fn hl => q (.ref f :: vs) H3 ((st.trans s2).trans s3) (by rw [e3, b2, eb]) (.cons ?_ fn) (congrArg Nat.succ hl)
    refine Fn1.ext (s3.exts s2.pre) ⟨f, c', _, bo, scp, rfl, (L.lk _ _ _ _).mpr (by rw [c.sc]; exact h.1), ?_, ?_⟩
    · rw [← L.q, ← L.cl]
      exact upd_same
    · rw [← L.q, upd_ne (ne_of_none hc hf)]
      exact hc
  | [], _ :: _, h => (Bool.false_ne_true h).elim
  | _ :: _, [], h => (Bool.false_ne_true h).elim
theorem ownSub_fns {r : Env} {σ : L2.St} {i tag : Nat} {o : Option V} : OwnSub r σ (r.set i (.fns tag)) (σ.set i o) := fun k xs h => by
  rw [List.getElem?_set] at h
  by_cases q : i = k
  · subst q
    rw [if_pos rfl] at h
    split at h <;> cases h
  · rw [if_neg q] at h
    exact ⟨h, List.getElem?_set_ne q⟩
theorem ss_lams (c : CtxD g ck sc W n C) (F : Facts g ck call n) {i tag : Nat} {x : Str} {p q pos : Pos} {es : List Expr}
    (h : (nmB ck sc (fun _ => true) i (.Name x p) && decide (ck.lam = some sc) && decide (es.length ≤ 1000) && (match ck.ltab.lookup tag with
      | some bs => lamsB ck sc bs es
      | none => false)) = true) : SS g C W Z0 H0 (.Assign [.Name x p] (.List es q) pos) fun r => .ret (.nx (r.set i (.fns tag))) := by
  simp only [Bool.and_eq_true, decide_eq_true_eq] at h
  obtain ⟨⟨⟨h1, h2⟩, h3⟩, h4⟩ := h
  have L := c.ok.lam h2
  cases lt : ck.ltab.lookup tag with
  | none => rw [lt] at h4; cases h4
  | some bs =>
    rw [lt] at h4
    obtain ⟨ta, q1, q2⟩ := pa_lams c.ok L h4
    have hg := pg_nm c.ok F (fun x _ => c.fn x) h1
    refine ⟨_, ps_asg (pe_lst q1) hg rfl rfl, fun r Z σ H Dn cf a => ?_⟩
    refine q2 r Z σ H _ cf.cfg fun vs H1 s e fn hl => ⟨by rw [hl, sizeLine_eq]; omega, fun p hp => ?_⟩
    have s2 : Step g Z H1 (upd Z p (.lst vs)) (upd H1 p (.lst vs)) := .newZ s.pre hp
    have cf2 := cf.step (s.trans s2)
    have b2 := bud_upd (o := HO.lst vs) s.pre (s.pre.nF hp)
    exact a (upd Z p (.lst vs)) (σ.set i (some (.ref p))) (upd H1 p (.lst vs)) (cf2.sub (cf2.cfg.set (s := .fns tag) ⟨p, vs, bs, rfl, upd_same, by rw [hl, sizeLine_eq]; omega, by rw [L.lt]; exact lt, fn.ext (s2.exts s.pre)⟩) ownSub_fns) (by rw [b2, e]) (s.trans s2).z
/-- x = e, the term's reading stored -/
theorem ps_name (c : CtxD g ck sc W n C) (F : Facts g ck call n) {i : Nat} {x : Str} {p pos : Pos} {v : Expr} (hn : nmB ck sc (fun _ => true) i (.Name x p) = true) (hv : okV v = true) {e : X} (he : chkE ck e sc v = true) :
    ∃ t, PS C (.Assign [.Name x p] v pos) (tAsg t (gName i)) ∧ SimE g W t (ev call e) := by
  have hg := pg_nm c.ok F (fun x _ => c.fn x) hn
  have hw : swappedStores [.Name x p] v C.env = pure none := by
    first
      | rfl
      | (cases v <;> rfl)
  by_cases hc : notComp v = true
  · obtain ⟨t, h1, h2⟩ := (sound F e).E C sc W v c.ok he
    exact ⟨t, ps_asg h1 hg (show swapsWith v (some (.Name x p)) pos.line C.env = pure false from swaps_none hc) hw, h2⟩
  · cases v with
    | ListComp el gens scope p2 =>
      have hb : C.env.blockKind = .function := by unfold PySem.Env.blockKind; rw [c.ok.sc, c.kind]; rfl
      have hs : swapsWith (.ListComp el gens scope p2) (some (.Name x p)) pos.line C.env = pure (swB sc x p (.ListComp el gens scope p2)) := by
        have kx : C.env.kindOf x = sc.names.lookup x := by show C.env.scope.names.lookup x = _; rw [c.ok.sc]
        unfold swapsWith
        simp only [hb, kx]
        rfl
      cases q : swB sc x p (.ListComp el gens scope p2) with
      | false =>
        obtain ⟨t, h1, h2⟩ := (sound F e).E C sc W _ c.ok he
        exact ⟨t, ps_asg h1 hg (by rw [q] at hs; exact hs) hw, h2⟩
      | true =>
        rw [q] at hs
        obtain ⟨tge, ite, ifs, own, wi, gt, tt, te, rfl, k1, k2, k3, k4, k5, k6, k7⟩ := comp_parts c.ok F he
        have hN : C.N.Nodup := by rw [c.ok.N]; exact F.nd
        simp only [nmB, Bool.and_eq_true, decide_eq_true_eq] at hn
        have hy : C.N[i]? = some x := by rw [c.ok.N]; exact hn.1
        simp only [swB, Bool.and_eq_true, beq_iff_eq] at q
        have hyl : C.env.scope.names.lookup x = some .local := by rw [c.ok.sc]; exact q.1.1
        exact ⟨_, ps_setLc c.ok.calm hN hy hyl hs k1 k2 k3 k4 k5 k6, k7⟩
    | SetComp _ _ _ _ => exact (Bool.false_ne_true hv).elim
    | DictComp _ _ _ _ _ => exact (Bool.false_ne_true hv).elim
    | _ => exact absurd rfl hc

theorem par_names : ∀ {is : List Nat} {es : List Expr}, parNB ck is es = true → es.length = is.length
  | [], [], _ => rfl
  | [], _ :: _, h => (Bool.false_ne_true h).elim
  | _ :: _, [], h => (Bool.false_ne_true h).elim
  | i :: is, e :: es, h => by
    cases e <;> first
      | exact (Bool.false_ne_true h).elim
      | skip
    simp only [parNB, Bool.and_eq_true] at h
    exact congrArg Nat.succ (par_names h.2)
theorem ss_par (c : CtxD g ck sc W n C) (F : Facts g ck call n) {is : List Nat} {es : X} {ts vs : List Expr} {k k2 : Nat} {p p2 pos : Pos} (h : (par2B sc ts vs && parNB ck is ts && decide is.Nodup && chkR ck es sc vs) = true) :
    SS g C W Z0 H0 (.Assign [.Tuple ts k p] (.Tuple vs k2 p2) pos) (ex call wh (.par is es)) := by
  simp only [Bool.and_eq_true, decide_eq_true_eq] at h
  obtain ⟨⟨⟨h1, h2⟩, h3⟩, h4⟩ := h
  obtain ⟨t, q1, q2⟩ := (sound F es).R C sc W _ c.ok h4
  have hN : C.N.Nodup := by rw [c.ok.N]; exact F.nd
  unfold par2B at h1
  split at h1
  · rename_i x px y py a b
    have hw := par2_swapped c.ok.sc c.kind (k := k) (k2 := k2) (p := p) (p2 := p2) (x := x) (y := y) (px := px) (py := py) (a := a) (b := b) h1
    simp only [Bool.and_eq_true, decide_eq_true_eq] at h1
    match is, h2, h3 with
    | [i, j], h2, h3 =>
      simp only [parNB, Bool.and_eq_true, decide_eq_true_eq] at h2
      simp only [List.nodup_cons, List.mem_singleton] at h3
      have lx : C.env.scope.names.lookup x = some .local := by rw [c.ok.sc]; exact h1.1.1.1.1.1.1.1
      have ly : C.env.scope.names.lookup y = some .local := by rw [c.ok.sc]; exact h1.1.1.1.1.1.1.2
      refine ⟨_, ps_par c.ok.calm hN (by rw [c.ok.N]; exact h2.1) (by rw [c.ok.N]; exact h2.2.1) h3.1 lx ly q1 hw, simS_par q2 (fun _ _ _ h => h) fun Dn σ us H1 hl q => ?_⟩
      match us, hl, q with
      | [u, v], _, q => exact ⟨u, v, rfl, q⟩
    | [], h2, _ => exact (Bool.false_ne_true h2).elim
    | [_], h2, _ => simp [parNB] at h2
    | _ :: _ :: _ :: _, h2, _ => simp [parNB] at h2
  · rename_i x px y py z pz a b cc
    have hw := par3_swapped c.ok.sc c.kind (k := k) (k2 := k2) (p := p) (p2 := p2) (x := x) (y := y) (z := z) (px := px) (py := py) (pz := pz) (a := a) (b := b) (c := cc) h1
    simp only [Bool.and_eq_true, decide_eq_true_eq] at h1
    match is, h2, h3 with
    | [i, j, l], h2, h3 =>
      simp only [parNB, Bool.and_eq_true, decide_eq_true_eq] at h2
      simp only [List.nodup_cons, List.mem_cons, List.mem_singleton, not_or] at h3
      obtain ⟨⟨⟨⟨⟨⟨⟨⟨⟨⟨⟨⟨l1, l2⟩, l3⟩, _⟩, _⟩, _⟩, _⟩, _⟩, _⟩, _⟩, _⟩, _⟩, _⟩ := h1
      have lx : C.env.scope.names.lookup x = some .local := by rw [c.ok.sc]; exact l1
      have ly : C.env.scope.names.lookup y = some .local := by rw [c.ok.sc]; exact l2
      have lz : C.env.scope.names.lookup z = some .local := by rw [c.ok.sc]; exact l3
      refine ⟨_, ps_par3 c.ok.calm hN (by rw [c.ok.N]; exact h2.1) (by rw [c.ok.N]; exact h2.2.1) (by rw [c.ok.N]; exact h2.2.2.1) h3.1.1 (by first | exact h3.1.2.1 | exact h3.1.2) (by first | exact h3.2.1.1 | exact h3.2.1) lx ly lz q1 hw, simS_par q2 (fun _ _ _ h => h) fun Dn σ us H1 hl q => ?_⟩
      match us, hl, q with
      | [u, v, w], _, q => exact ⟨u, v, w, rfl, q⟩
    | [], h2, _ => exact (Bool.false_ne_true h2).elim
    | [_], h2, _ => simp [parNB] at h2
    | [_, _], h2, _ => simp [parNB] at h2
    | _ :: _ :: _ :: _ :: _, h2, _ => simp [parNB] at h2
  · cases h1
/-- x.append(v) -/
theorem ss_app (c : CtxD g ck sc W n C) (F : Facts g ck call n) {i : Nat} {e : X} {x m : Str} {v : Expr} {px apos cpos pos : Pos} (h : (visB ck sc i x && decide (m = ("append" : Str)) && chkE ck e sc v && plainE v && (apos.endLine == cpos.line)) = true) :
    SS g C W Z0 H0 (.Expr (.Call (.Attribute (.Name x px) m apos) [v] [] cpos) pos) (ex call wh (.app i e)) := by
  simp only [Bool.and_eq_true, decide_eq_true_eq] at h
  obtain ⟨⟨⟨⟨h1, h2⟩, h3⟩, h4⟩, h5⟩ := h
  subst h2
  obtain ⟨t, q1, q2⟩ := (sound F e).E C sc W _ c.ok h3
  have hs := plain_star (es := []) (env := C.env) h4
  have hm : MtR C "list.append" rAppend := mt_append
  have e1 : PE C (.Call (.Attribute (.Name x px) "append" apos) [v] [] cpos) (tBM g.K "list" rAppend (tVar i) (tCons t tNil)) := by
    rw [← c.ok.K]
    exact pe_bm PySem.F.plainAttrs_list PySem.F.slot_list_append PySem.F.type_list_append hm (visB_ok c.ok h1) (pa_cons q1 pa_nil hs) rfl (by rw [hs]; rfl) h5 hs rfl
  exact ⟨_, ps_expr e1 rfl, simS_app q2⟩
theorem ss_sset (c : CtxD g ck sc W n C) (F : Facts g ck call n) {i : Nat} {ix e : X} {x : Str} {s v : Expr} {px ps pos : Pos} (h : (visB ck sc i x && chkE ck ix sc s && plainIxB s && chkE ck e sc v && okV v) = true) :
    SS g C W Z0 H0 (.Assign [.Subscript (.Name x px) s ps] v pos) (ex call wh (.sset i ix e)) := by
  simp only [Bool.and_eq_true] at h
  obtain ⟨⟨⟨⟨h1, h2⟩, h3⟩, h4⟩, h5⟩ := h
  obtain ⟨ti, k1, k2⟩ := (sound F ix).E C sc W _ c.ok h2
  obtain ⟨t, q1, q2⟩ := (sound F e).E C sc W _ c.ok h4
  have hs : swapsWith v (some (.Subscript (.Name x px) s ps)) pos.line C.env = pure false := by
    cases v <;> first
      | rfl
      | exact (Bool.false_ne_true h5).elim
  have hw : swappedStores [.Subscript (.Name x px) s ps] v C.env = pure none := by
    first
      | rfl
      | (cases v <;> rfl)
  have hg : PG C (.Subscript (.Name x px) s ps) (gSub (tVar i) ti rSetL) := by
    cases s <;> first
      | exact pg_sub (visB_ok c.ok h1) k1 set_list
      | exact (Bool.false_ne_true h3).elim
  exact ⟨_, ps_asg q1 hg hs hw, simS_sset q2 k2⟩
theorem ss_raise (c : CtxD g ck sc W n C) {k : Nat} {x m : Str} {j : Nat} {px pm pc pos : Pos} (h : (glB sc x && decide ((k, x) ∈ ck.cls)) = true) :
    SS g C W Z0 H0 (.Raise (some (.Call (.Name x px) [.Constant (.str m) j pm] [] pc)) none pos) (ex call wh (.raise k)) := by
  simp only [Bool.and_eq_true, decide_eq_true_eq] at h
  obtain ⟨h1, h2⟩ := h
  have K := c.cls k x h2
  have e1 : PMk C (.Call (.Name x px) [.Constant (.str m) j pm] [] pc) (fun _ H Q => Q (.ref (g.cad k)) none H) :=
    pmk_own PySem.F.excBase_ValueError (by rw [c.ok.K]; exact K.ex) (by rw [c.ok.mg]; exact K.mg) (by rw [c.ok.K]; exact K.kp) (raises_own (by rw [c.ok.K]; exact K.sub) (by rw [c.ok.K]; exact K.ty)) (c.ok.gl h1) (glB_ok h1).2.1
  exact ⟨_, ps_raise c.ok.calm c.ok.tk e1, simS_raise trivial⟩
theorem ss_asgT (c : CtxD g ck sc W n C) (F : Facts g ck call n) {is : List Nat} {e : X} {ts : List Expr} {v : Expr} {k : Nat} {p pos : Pos} (h : (nmsB ck sc (fun _ => true) is ts && chkE ck e sc v && notComp v && notTup sc ts v) = true) :
    SS g C W Z0 H0 (.Assign [.Tuple ts k p] v pos) (ex call wh (.asgT is e)) := by
  simp only [Bool.and_eq_true] at h
  obtain ⟨⟨⟨h1, h2⟩, h3⟩, h4⟩ := h
  obtain ⟨t, q1, q2⟩ := (sound F e).E C sc W _ c.ok h2
  have hg := pg_tg c.ok F (f := fun _ => true) (fun x _ => c.fn x) (tg := .tp is) (e := .Tuple ts k p) h1
  have hw : swappedStores [.Tuple ts k p] v C.env = pure none := not_swapped c.ok.sc h4
  exact ⟨_, ps_asg q1 hg (show swapsWith v (some (.Tuple ts k p)) pos.line C.env = pure false from swaps_none h3) hw, simS_asgT (simG_tg (.tp is)) q2⟩

theorem ss_ret (c : CtxD g ck sc W n C) (F : Facts g ck call n) {e : X} {v : Expr} {pos : Pos} (h : chkE ck e sc v = true) : SS g C W Z0 H0 (.Return (some v) pos) (ex call wh (.ret e)) := by
  obtain ⟨t, q1, q2⟩ := (sound F e).E C sc W _ c.ok h
  cases e <;> first
    | exact ⟨_, ps_ret q1, simS_ret q2⟩
    | skip
  cases v <;> first
    | exact (Bool.false_ne_true h).elim
    | skip
  exact ⟨_, ps_ret (visB_ok c.ok h), simS_retV⟩
theorem simS_nx : SimS g W Z0 H0 tNext fun r => .ret (.nx r) := fun r Z σ H Dn c a => a Z σ H c rfl fun _ _ e => e
structure SndS (g : GF) (ck : Ck) (call : Nat → List D → T D) (wh n : Nat) (sc : Scope) (W : Nat → Hp → Prop) (C : Cx) (Z0 H0 : Hp) (s : S) : Prop where
  S : ∀ st, chkS ck s sc st = true → SS g C W Z0 H0 st (ex call wh s)
  B : ∀ sts, chkB ck s sc sts = true → SSs g C W Z0 H0 sts (ex call wh s)
theorem soundS (c : CtxD g ck sc W n C) (F : Facts g ck call n) (s : S) : SndS g ck call wh n sc W C Z0 H0 s := by
  induction s with
  | nil =>
    refine ⟨fun st h => (Bool.false_ne_true h).elim, fun sts h => ?_⟩
    cases sts with
    | nil => exact ⟨_, pss_nil, simS_nx⟩
    | cons _ _ => exact (Bool.false_ne_true h).elim
  | cons s r ihs ihr =>
    refine ⟨fun st h => (Bool.false_ne_true h).elim, fun sts h => ?_⟩
    have h : (if isFrz s = true then chkB ck r sc sts else consB sts (chkS ck s sc) (chkB ck r sc)) = true := h
    by_cases hf : isFrz s = true
    · rw [if_pos hf] at h
      cases s <;> first
        | exact (Bool.false_ne_true hf).elim
        | skip
      obtain ⟨t, q1, q2⟩ := ihr.B sts h
      exact ⟨t, q1, simS_frz q2⟩
    · rw [if_neg hf] at h
      cases sts with
      | nil => exact (Bool.false_ne_true h).elim
      | cons st sts =>
        have h : (chkS ck s sc st && chkB ck r sc sts) = true := h
        rw [Bool.and_eq_true] at h
        obtain ⟨t, q1, q2⟩ := ihs.S st h.1
        obtain ⟨u, k1, k2⟩ := ihr.B sts h.2
        exact ⟨_, pss_cons q1 k1, simS_seq q2 k2⟩
  | asg i e =>
    refine ⟨fun st h => ?_, fun sts h => (Bool.false_ne_true h).elim⟩
    cases st with
    | Assign ts v pos =>
      match ts, h with
      | [.Name x p], h =>
        have h : (nmB ck sc (fun _ => true) i (.Name x p) && okV v && chkE ck e sc v) = true := h
        simp only [Bool.and_eq_true] at h
        obtain ⟨t, q1, q2⟩ := ps_name c F h.1.1 h.1.2 (pos := pos) h.2
        exact ⟨_, q1, simS_asg q2⟩
      | [], h => exact (Bool.false_ne_true h).elim
      | a :: _ :: _, h => exfalso; cases a <;> exact Bool.false_ne_true h
      | [a], h => cases a <;> first
        | exact (Bool.false_ne_true h).elim
        | (rename_i x p
           have h : (nmB ck sc (fun _ => true) i (.Name x p) && okV v && chkE ck e sc v) = true := h
           simp only [Bool.and_eq_true] at h
           obtain ⟨t, q1, q2⟩ := ps_name c F h.1.1 h.1.2 (pos := pos) h.2
           exact ⟨_, q1, simS_asg q2⟩)
    | _ => exact (Bool.false_ne_true h).elim
  | asgF i e =>
    refine ⟨fun st h => ?_, fun sts h => (Bool.false_ne_true h).elim⟩
    cases st with
    | Assign ts v pos =>
      match ts, h with
      | [], h => exact (Bool.false_ne_true h).elim
      | a :: _ :: _, h => exfalso; cases a <;> exact Bool.false_ne_true h
      | [a], h => cases a <;> first
        | exact (Bool.false_ne_true h).elim
        | (rename_i x p
           have h : (nmB ck sc (fun _ => true) i (.Name x p) && okV v && chkE ck e sc v) = true := h
           simp only [Bool.and_eq_true] at h
           obtain ⟨t, q1, q2⟩ := ps_name c F h.1.1 h.1.2 (pos := pos) h.2
           exact ⟨_, q1, simS_asgF q2⟩)
    | _ => exact (Bool.false_ne_true h).elim
  | asgT is e =>
    refine ⟨fun st h => ?_, fun sts h => (Bool.false_ne_true h).elim⟩
    cases st with
    | Assign ts v pos =>
      match ts, h with
      | [], h => exact (Bool.false_ne_true h).elim
      | a :: _ :: _, h => exfalso; cases a <;> exact Bool.false_ne_true h
      | [a], h => cases a <;> first
        | exact (Bool.false_ne_true h).elim
        | exact ss_asgT c F h
    | _ => exact (Bool.false_ne_true h).elim
  | par is es =>
    refine ⟨fun st h => ?_, fun sts h => (Bool.false_ne_true h).elim⟩
    cases st with
    | Assign ts v pos =>
      match ts, h with
      | [], h => exact (Bool.false_ne_true h).elim
      | a :: _ :: _, h => exfalso; cases a <;> cases v <;> exact Bool.false_ne_true h
      | [a], h => cases a <;> first
        | exact (Bool.false_ne_true h).elim
        | (cases v <;> first
            | exact (Bool.false_ne_true h).elim
            | exact ss_par c F h)
    | _ => exact (Bool.false_ne_true h).elim
  | expr e =>
    refine ⟨fun st h => ?_, fun sts h => (Bool.false_ne_true h).elim⟩
    cases st with
    | Expr v pos =>
      have h : (chkE ck e sc v && notComp v) = true := h
      rw [Bool.and_eq_true] at h
      obtain ⟨t, q1, q2⟩ := (sound F e).E C sc W _ c.ok h.1
      exact ⟨_, ps_expr q1 (swaps_none h.2), simS_expr q2⟩
    | _ => exact (Bool.false_ne_true h).elim
  | app i e =>
    refine ⟨fun st h => ?_, fun sts h => (Bool.false_ne_true h).elim⟩
    cases st with
    | Expr v pos => cases v with
      | Call fn args kws cpos => cases fn with
        | Attribute o m apos => cases o with
          | Name x px =>
            match args, kws, h with
            | [v], [], h => exact ss_app c F h
            | [], _, h => exact (Bool.false_ne_true h).elim
            | [_], _ :: _, h => exact (Bool.false_ne_true h).elim
            | _ :: _ :: _, _, h => exact (Bool.false_ne_true h).elim
          | _ => exact (Bool.false_ne_true h).elim
        | _ => exact (Bool.false_ne_true h).elim
      | _ => exact (Bool.false_ne_true h).elim
    | _ => exact (Bool.false_ne_true h).elim
  | sset i ix e =>
    refine ⟨fun st h => ?_, fun sts h => (Bool.false_ne_true h).elim⟩
    cases st with
    | Assign ts v pos =>
      match ts, h with
      | [], h => exact (Bool.false_ne_true h).elim
      | a :: _ :: _, h =>
        exfalso
        cases a <;> first
          | exact Bool.false_ne_true h
          | (rename_i o _ _; cases o <;> exact Bool.false_ne_true h)
      | [.Subscript o s ps], h =>
        cases o <;> first
          | exact (Bool.false_ne_true h).elim
          | exact ss_sset c F h
      | [a], h => cases a <;> first
        | exact (Bool.false_ne_true h).elim
        | (rename_i o _ _; cases o <;> first
            | exact (Bool.false_ne_true h).elim
            | exact ss_sset c F h)
    | _ => exact (Bool.false_ne_true h).elim
  | iff t a b iha ihb =>
    refine ⟨fun st h => ?_, fun sts h => (Bool.false_ne_true h).elim⟩
    cases st with
    | If x y z pos =>
      have h : (chkT ck t sc x && chkB ck a sc y && chkB ck b sc z) = true := h
      simp only [Bool.and_eq_true] at h
      obtain ⟨tt, q1, q2⟩ := (sound F t).T C sc W _ c.ok h.1.1
      obtain ⟨ta, k1, k2⟩ := iha.B _ h.1.2
      obtain ⟨tb, j1, j2⟩ := ihb.B _ h.2
      exact ⟨_, ps_if q1 k1 j1, simS_if q2 k2 j2⟩
    | _ => exact (Bool.false_ne_true h).elim
  | for_ tg it body ih =>
    refine ⟨fun st h => ?_, fun sts h => (Bool.false_ne_true h).elim⟩
    cases st with
    | For tge ite st els pos => cases els with
      | nil =>
        have h : (tgCell ck sc (fun _ => true) tg tge && notSetB ite && chkI ck it sc tge ite && chkB ck body sc st) = true := h
        simp only [Bool.and_eq_true] at h
        obtain ⟨ti, q1, q2⟩ := (sound F it).I C sc W _ _ c.ok h.1.2
        obtain ⟨tb, k1, k2⟩ := ih.B _ h.2
        have hg := pg_tg c.ok F (f := fun _ => true) (fun x _ => c.fn x) h.1.1.1
        exact ⟨_, ps_for c.po c.ok.calm q1 hg k1 (notSet_ok h.1.1.2), simS_for q2 (simG_tg tg) k2⟩
      | cons _ _ => exact (Bool.false_ne_true h).elim
    | _ => exact (Bool.false_ne_true h).elim
  | while_ t body ih =>
    refine ⟨fun st h => ?_, fun sts h => (Bool.false_ne_true h).elim⟩
    cases st with
    | While x st els pos => cases els with
      | nil =>
        have h : (chkT ck t sc x && chkB ck body sc st) = true := h
        simp only [Bool.and_eq_true] at h
        obtain ⟨tt, q1, q2⟩ := (sound F t).T C sc W _ c.ok h.1
        obtain ⟨tb, k1, k2⟩ := ih.B _ h.2
        exact ⟨_, ps_while c.po q1 k1, simS_while q2 k2⟩
      | cons _ _ => exact (Bool.false_ne_true h).elim
    | _ => exact (Bool.false_ne_true h).elim
  | ret e =>
    refine ⟨fun st h => ?_, fun sts h => (Bool.false_ne_true h).elim⟩
    cases st with
    | Return v pos => cases v with
      | some v => exact ss_ret c F h
      | none => exact (Bool.false_ne_true h).elim
    | _ => exact (Bool.false_ne_true h).elim
  | retN =>
    refine ⟨fun st h => ?_, fun sts h => (Bool.false_ne_true h).elim⟩
    cases st with
    | Return v pos => cases v with
      | some v => exact (Bool.false_ne_true h).elim
      | none => exact ⟨_, ps_retN, fun r Z σ H Dn c a => a _ Z H c.stp rfl (.of .non)⟩
    | _ => exact (Bool.false_ne_true h).elim
  | raise k =>
    refine ⟨fun st h => ?_, fun sts h => (Bool.false_ne_true h).elim⟩
    cases st with
    | Raise x y pos => cases y with
      | none => cases x with
        | some x => cases x with
          | Call fn args kws pc => cases fn with
            | Name x px =>
              match args, kws, h with
              | [.Constant (.str m) j pm], [], h => exact ss_raise c h
              | [], _, h => exact (Bool.false_ne_true h).elim
              | a :: _ :: _, _, h =>
                exfalso
                cases a <;> first
                  | exact Bool.false_ne_true h
                  | (rename_i q _ _; cases q <;> exact Bool.false_ne_true h)
              | [a], _ :: _, h =>
                exfalso
                cases a <;> first
                  | exact Bool.false_ne_true h
                  | (rename_i q _ _; cases q <;> exact Bool.false_ne_true h)
              | [a], [], h =>
                cases a <;> first
                  | exact (Bool.false_ne_true h).elim
                  | (rename_i q _ _; cases q <;> first
                      | exact (Bool.false_ne_true h).elim
                      | exact ss_raise c h)
            | _ => exact (Bool.false_ne_true h).elim
          | _ => exact (Bool.false_ne_true h).elim
        | none => exact (Bool.false_ne_true h).elim
      | some _ => cases x with
        | none => exact (Bool.false_ne_true h).elim
        | some x =>
          exfalso
          cases x <;> first
            | exact Bool.false_ne_true h
            | (rename_i fn args kws _
               cases fn <;> first
                 | exact Bool.false_ne_true h
                 | (match args, kws, h with
                    | [], _, h => exact Bool.false_ne_true h
                    | [a], [], h => cases a <;> first
                      | exact Bool.false_ne_true h
                      | (rename_i q _ _; cases q <;> exact Bool.false_ne_true h)
                    | [a], _ :: _, h => cases a <;> first
                      | exact Bool.false_ne_true h
                      | (rename_i q _ _; cases q <;> exact Bool.false_ne_true h)
                    | a :: _ :: _, _, h => cases a <;> first
                      | exact Bool.false_ne_true h
                      | (rename_i q _ _; cases q <;> exact Bool.false_ne_true h)))
    | _ => exact (Bool.false_ne_true h).elim
  | frz i => exact ⟨fun st h => (Bool.false_ne_true h).elim, fun sts h => (Bool.false_ne_true h).elim⟩
  | brk =>
    refine ⟨fun st h => ?_, fun sts h => (Bool.false_ne_true h).elim⟩
    cases st with
    | Break pos => exact ⟨_, ps_break, fun r Z σ H Dn c a => a Z σ H c rfl fun _ _ e => e⟩
    | _ => exact (Bool.false_ne_true h).elim
  | cont =>
    refine ⟨fun st h => ?_, fun sts h => (Bool.false_ne_true h).elim⟩
    cases st with
    | Continue pos => exact ⟨_, ps_continue, fun r Z σ H Dn c a => a Z σ H c rfl fun _ _ e => e⟩
    | _ => exact (Bool.false_ne_true h).elim
  | lams i tag =>
    refine ⟨fun st h => ?_, fun sts h => (Bool.false_ne_true h).elim⟩
    cases st with
    | Assign ts v pos =>
      match ts, h with
      | [.Name x p], h =>
        cases v with
        | List es q => exact ss_lams c F h
        | _ => exact (Bool.false_ne_true h).elim
      | [], h => exact (Bool.false_ne_true h).elim
      | a :: _ :: _, h => exfalso; cases a <;> exact Bool.false_ne_true h
      | [a], h => cases a <;> first
        | exact (Bool.false_ne_true h).elim
        | (rename_i x p
           cases v <;> first
             | exact (Bool.false_ne_true h).elim
             | exact ss_lams c F h)
    | _ => exact (Bool.false_ne_true h).elim
  | pass =>
    refine ⟨fun st h => ?_, fun sts h => (Bool.false_ne_true h).elim⟩
    cases st with
    | Pass pos => exact ⟨_, ps_pass, simS_nx⟩
    | Expr v pos => cases v with
      | Constant k j p => cases k with
        | str x => exact ⟨_, ps_doc, simS_nx⟩
        | _ => exact (Bool.false_ne_true h).elim
      | _ => exact (Bool.false_ne_true h).elim
    | _ => exact (Bool.false_ne_true h).elim
end
end PV
end
section
set_option maxHeartbeats 8000000
/-! PvS9: each def by its term. -/
namespace PV
open PySem PySem.Spec PyProof.Rows L2
theorem startE_get {N : List Str} {ds : List D} {i : Nat} {s : Sl} (h : (startE N ds)[i]? = some s) : (∃ d, ds[i]? = some d ∧ s = .val d) ∨ (ds.length ≤ i ∧ s = .un) := by
  unfold startE at h
  by_cases hi : i < ds.length
  · rw [List.getElem?_append_left (by simpa using hi), List.getElem?_map] at h
    cases e : ds[i]? with
    | none => rw [e] at h; cases h
    | some d => rw [e] at h; cases h; exact .inl ⟨d, rfl, rfl⟩
  · rw [List.getElem?_append_right (by simpa using hi), List.getElem?_replicate] at h
    split at h
    · cases h; exact .inr ⟨by omega, rfl⟩
    · cases h
theorem start_cfg {g : GF} {N : List Str} {Z H : Hp} {vs : List V} {ds : List D} (p : Pre g Z H) (r : Reps g Z vs ds) (hl : vs.length ≤ N.length) : SCfg g Z H (startE N ds) Z (L2.start N vs) H := by
  have hlen := r.length
  refine ⟨⟨p, ?_, fun i s h => ?_⟩, .refl p, fun i xs a h => ?_, fun i j xs ys a _ h => ?_⟩
  · unfold startE L2.start
    simp only [List.length_append, List.length_map, List.length_replicate]
    omega
  · have hi : i < (startE N ds).length := (List.getElem?_eq_some_iff.mp h).1
    unfold startE at hi
    simp only [List.length_append, List.length_map, List.length_replicate] at hi
    rcases startE_get h with ⟨d, h1, rfl⟩ | ⟨h1, rfl⟩
    · obtain ⟨v, k1, k2⟩ := r.get h1
      refine ⟨some v, ?_, v, rfl, k2⟩
      unfold L2.start
      have hv : i < vs.length := (List.getElem?_eq_some_iff.mp k1).1
      rw [List.getElem?_append_left (by simpa using hv), List.getElem?_map, k1]
      rfl
    · refine ⟨none, ?_, trivial⟩
      unfold L2.start
      rw [List.getElem?_append_right (by simp; omega), List.getElem?_replicate, if_pos (by simp; omega)]
  · rcases startE_get h with ⟨d, _, e⟩ | ⟨_, e⟩ <;> cases e
  · rcases startE_get h with ⟨d, _, e⟩ | ⟨_, e⟩ <;> cases e
/-- a def's rule, its code object told -/
theorem okC {P : Program} {w : World} {K : PySem.W.Frag} {mg : Str → Option Value} {base : Heap} {x qual : Str} {params : Arguments} {body : List Stmt} {scope : Scope} {dvs : List V} {kws : List (Str × V)} {f : Addr} {fd : FuncData} {CX : CXT} {N ps : List Str} {k : Nat} {sp : Sp}
    (F : FunD K x qual params body scope dvs kws f fd) (S : FnScope N ps scope) (len : ∀ vs H Q E, sp vs H Q E → vs.length = ps.length)
    (hbody : ∀ (A : Around) (outer : List PySem.Env) (s : Shared) (H : Hp) (vs : List V) (Q : VK) (E : XK), Room k (A.deeper (envOfC qual scope s.heap.objs.size f fd.code)) → sp vs H Q E →
      ∃ t, PSs (cxOf CX P w K mg base N qual scope f fd.code A outer s H E) body t ∧ t { nx := fun _ H' => Q .non H', rt := Q } (L2.start N vs) H) : FnOk P w K mg base CX (k + 1) f fd ps sp := by
  obtain ⟨oc, od, dV, kV, doc, pm, an, cdv, ct, osl, rfl, lk, hcd, _, _⟩ := F.ex
  exact fn_of lk hcd S len hbody
/-- the tables of a def that makes lambdas -/
def LamD (g : G) (x : Str) (fd : FuncData) : Prop := ∃ c P, LamX.TabB g.base g.mg c P ∧ fd.code = .ref c ∧ (P, x ++ ".<locals>." ++ "<lambda>") ∈ g.T ∧ ∀ p ∈ g.T, p.1 = P → p.2 = x ++ ".<locals>." ++ "<lambda>"
/-- THE THEOREM: a def whose body is what its term says -/
theorem fn_sound {g : G} {ck : Ck} {m n wh k : Nat} {P : Tab} {d : Df} {x : Str} {st : Stmt} {f : Addr} {fd : FuncData} (F : FunD g.K x x (defArgs st) (defBody st) (defScope st) [] [] f fd) (S : FnScope d.N d.ps (defScope st))
    (hN : ck.N = d.N) (fa : Facts g ck (callF P wh m) n) (hlam : ck.lam = some (defScope st) → LamD g x fd) (cls : ∀ k x, (k, x) ∈ ck.cls → ClsE g k x) (hc : chkB ck d.body (defScope st) (defBody st) = true) (hP : P.lookup (k + 1) = some d) :
    FnOk g.P g.w g.K g.mg g.base (L2.CX g.P g.w) (n + 4) f fd d.ps (spD g (callF P wh (m + 1)) (k + 1)) := by
  have hcall : ∀ ds, callF P wh (m + 1) (k + 1) ds = runD (callF P wh m) wh d ds := fun ds => by
    show (match P.lookup (k + 1) with | some d => runD (callF P wh m) wh d ds | none => .bad) = _
    rw [hP]
  have hpl : d.ps.length ≤ d.N.length := by
    have := congrArg List.length S.pre
    rw [List.length_take] at this
    omega
  refine okC F S (fun vs H Q E h => ?_) (fun A outer s H vs Q E hr h => ?_)
  · obtain ⟨Z, ds, p, r, a⟩ := h
    rw [hcall] at a
    unfold runD at a
    split at a
    · rename_i e
      rw [r.length]; exact e
    · exact a.elim
  · obtain ⟨Z, ds, p, r, a⟩ := h
    rw [hcall] at a
    unfold runD at a
    split at a
    · rename_i hl
      let gf : GF := { toG := g, cl := (envOfC x (defScope st) s.heap.objs.size f fd.code).cells, q := (envOfC x (defScope st) s.heap.objs.size f fd.code).qual, lk := fun k pa bo scp => lamOkB ck (defScope st) k pa bo scp = true, lt := fun t => ck.ltab.lookup t }
      have c : CtxD gf ck (defScope st) (fun c H' => E (.ref (g.cad c)) none H') n (cxOf (L2.CX g.P g.w) g.P g.w g.K g.mg g.base d.N x (defScope st) f fd.code A outer s H E) := by
        refine ⟨⟨rfl, rfl, rfl, rfl, rfl, hN.symm, fun e => ⟨hr, rfl, rfl, rfl, fun _ _ _ _ => Iff.rfl, rfl, hlam e, fun a ps z => g.gts H a ps p.good z⟩, rfl, rfl, hr.mono (by omega), ?_⟩, S.kind, passes_of rfl, fun _ => rfl, cls⟩
        exact (takes_of (E := E) rfl rfl rfl rfl).imp fun cls d _ H h => by
          obtain ⟨c, rfl, rfl, h⟩ := h
          exact h
      obtain ⟨t, q1, q2⟩ := (soundS (g := gf) (wh := wh) (Z0 := Z) (H0 := H) c fa d.body).B _ hc
      refine ⟨t, q1, q2 _ Z _ H _ (start_cfg (g := gf) p r (by rw [r.length, hl]; exact hpl)) ?_⟩
      rw [all_bind] at a
      refine All.mono a (fun fl q => ?_) fun _ x => x
      cases fl with
      | nx r' => exact fun Z' σ' H' c' e _ => q _ Z' H' c'.stp e (.of .non)
      | rt v => exact q
      | bk r' => exact q.elim
      | ct r' => exact q.elim
    · exact a.elim
end PV
end
section
set_option maxHeartbeats 4000000
/-! PvD0: the state of the draws. -/
namespace PV
open PySem PySem.Spec PyProof.Rows L2
def stK (l t : Int) (gr ce : Addr) : List (Key × V) := [(.inr "great", .ref gr), (.inr "cells", .ref ce), (.inr "left", .int l), (.inr "turn", .int t)]
theorem kne {x y : Str} (h : (x == y) = false) : ¬ (Sum.inr x : Key) = .inr y := fun e => by
  cases e
  rw [beq_self_eq_true] at h
  cases h
section
variable {l t v : Int} {gr ce : Addr}
theorem val_great : valV (stK l t gr ce) (.inr "great") = some (.ref gr) := valV_pos rfl
theorem val_cells : valV (stK l t gr ce) (.inr "cells") = some (.ref ce) := (valV_neg (kne (by decide +kernel))).trans (valV_pos rfl)
theorem val_left : valV (stK l t gr ce) (.inr "left") = some (.int l) := (valV_neg (kne (by decide +kernel))).trans ((valV_neg (kne (by decide +kernel))).trans (valV_pos rfl))
theorem val_turn : valV (stK l t gr ce) (.inr "turn") = some (.int t) := (valV_neg (kne (by decide +kernel))).trans ((valV_neg (kne (by decide +kernel))).trans ((valV_neg (kne (by decide +kernel))).trans (valV_pos rfl)))
theorem put_left : putK (stK l t gr ce) (.inr "left") (.int v) = stK v t gr ce := by
  have h1 : ¬ (Sum.inr "great" : Key) = .inr "left" := kne (by decide +kernel)
  have h2 : ¬ (Sum.inr "cells" : Key) = .inr "left" := kne (by decide +kernel)
  have h3 : ¬ (Sum.inr "turn" : Key) = .inr "left" := kne (by decide +kernel)
  simp only [putK, stK, List.any_cons, List.map_cons, List.map_nil, h1, h2, h3, decide_false, decide_true, Bool.or_true, Bool.true_or, if_true, if_false]
theorem put_turn : putK (stK l t gr ce) (.inr "turn") (.int v) = stK l v gr ce := by
  have h1 : ¬ (Sum.inr "great" : Key) = .inr "turn" := kne (by decide +kernel)
  have h2 : ¬ (Sum.inr "cells" : Key) = .inr "turn" := kne (by decide +kernel)
  have h3 : ¬ (Sum.inr "left" : Key) = .inr "turn" := kne (by decide +kernel)
  simp only [putK, stK, List.any_cons, List.map_cons, List.map_nil, h1, h2, h3, decide_false, decide_true, Bool.or_true, Bool.true_or, Bool.false_or, if_true, if_false]
end
structure GoodAt (s gr ce : Addr) (l t : Int) (ns cs : List Int) (H : Hp) : Prop where
  st : H s = some (.dK (stK l t gr ce))
  gr : H gr = some (.lst (ns.map V.int))
  ce : H ce = some (.lst (cs.map V.int))
  l0 : 0 ≤ l
  t0 : 0 ≤ t
  n0 : ∀ n ∈ ns, 0 ≤ n
  c0 : ∀ n ∈ cs, 0 ≤ n
  nl : ns.length ≤ 63
  cl : cs.length ≤ 63
/-- so many draws, no more -/
def LIM : Nat := 2 ^ 1000000
def turnOf (s : Addr) (H : Hp) : Int := match H s with
  | some (.dK kvs) => (match valV kvs (.inr "turn") with
    | some (.int t) => t
    | _ => 0)
  | _ => 0
def budD (s : Addr) (H : Hp) : Nat := LIM - (turnOf s H).toNat
def GoodD (s gr ce : Addr) (H : Hp) : Prop := gr ≠ ce ∧ ∃ l t ns cs, GoodAt s gr ce l t ns cs H
section
variable {s gr ce : Addr} {l t v : Int} {ns cs : List Int} {H : Hp}
theorem GoodAt.sg (g : GoodAt s gr ce l t ns cs H) : gr ≠ s := ne_of g.gr g.st (by intro z; cases z)
theorem GoodAt.sc (g : GoodAt s gr ce l t ns cs H) : ce ≠ s := ne_of g.ce g.st (by intro z; cases z)
theorem GoodAt.left (g : GoodAt s gr ce l t ns cs H) (h : 0 ≤ v) : GoodAt s gr ce v t ns cs (upd H s (.dK (stK v t gr ce))) :=
  ⟨upd_same, by rw [upd_ne g.sg]; exact g.gr, by rw [upd_ne g.sc]; exact g.ce, h, g.t0, g.n0, g.c0, g.nl, g.cl⟩
theorem GoodAt.turn (g : GoodAt s gr ce l t ns cs H) (h : 0 ≤ v) : GoodAt s gr ce l v ns cs (upd H s (.dK (stK l v gr ce))) :=
  ⟨upd_same, by rw [upd_ne g.sg]; exact g.gr, by rw [upd_ne g.sc]; exact g.ce, g.l0, h, g.n0, g.c0, g.nl, g.cl⟩
theorem GoodAt.keep {H' : Hp} (g : GoodAt s gr ce l t ns cs H) (h : ∀ a o, H a = some o → H' a = some o) : GoodAt s gr ce l t ns cs H' := ⟨h _ _ g.st, h _ _ g.gr, h _ _ g.ce, g.l0, g.t0, g.n0, g.c0, g.nl, g.cl⟩
theorem dg_turn (g : GoodAt s gr ce l t ns cs H) : DGet H s (.str "turn") (some (.int t)) := by rw [← val_turn]; exact DGet.k (k := Sum.inr "turn") g.st
theorem dg_left (g : GoodAt s gr ce l t ns cs H) : DGet H s (.str "left") (some (.int l)) := by rw [← val_left]; exact DGet.k (k := Sum.inr "left") g.st
theorem dg_great (g : GoodAt s gr ce l t ns cs H) : DGet H s (.str "great") (some (.ref gr)) := by rw [← val_great]; exact DGet.k (k := Sum.inr "great") g.st
theorem dg_cells (g : GoodAt s gr ce l t ns cs H) : DGet H s (.str "cells") (some (.ref ce)) := by rw [← val_cells]; exact DGet.k (k := Sum.inr "cells") g.st
theorem dp_turn (g : GoodAt s gr ce l t ns cs H) : DPut H s (.str "turn") (.int v) (upd H s (.dK (stK l v gr ce))) := by rw [← put_turn (t := t)]; exact DPut.k (k := Sum.inr "turn") g.st (by show 4 < sizeLine; rw [sizeLine_eq]; omega)
theorem dp_left (g : GoodAt s gr ce l t ns cs H) : DPut H s (.str "left") (.int v) (upd H s (.dK (stK v t gr ce))) := by rw [← put_left (l := l)]; exact DPut.k (k := Sum.inr "left") g.st (by show 4 < sizeLine; rw [sizeLine_eq]; omega)
end
theorem GoodAt.turnOf {s gr ce : Addr} {l t : Int} {ns cs : List Int} {H : Hp} (g : GoodAt s gr ce l t ns cs H) : turnOf s H = t := by
  unfold PV.turnOf
  rw [g.st]
  show (match valV (stK l t gr ce) (.inr "turn") with | some (.int t) => t | _ => 0) = t
  rw [val_turn]
theorem GoodAt.bud {s gr ce : Addr} {l t : Int} {ns cs : List Int} {H : Hp} (g : GoodAt s gr ce l t ns cs H) : budD s H = LIM - t.toNat := by
  unfold budD
  rw [g.turnOf]
/-- ** of a great number -/
def CPowW (i j : Int) : Prop := 0 ≤ j ∧ (i.natAbs.log2 + 1 : Int) * j ≤ 2 ^ 27
theorem op_powW {X : Cx} : OpR X (binaryOp .Pow) (rI CPowW fun i j => .int (i ^ j.toNat)) := opI fun i j _ _ _ _ _ hc q => by
  have b : Builtin.Int.intBits i ≤ i.natAbs.log2 + 1 := by
    unfold Builtin.Int.intBits
    split <;> omega
  refine pow_int hc.1 (Int.le_trans (Int.mul_le_mul_of_nonneg_right ?_ hc.1) hc.2) q
  omega
theorem log_le {i : Int} {n : Nat} (h : i.natAbs < 2 ^ n) : i.natAbs.log2 ≤ n := by
  by_cases e : i.natAbs = 0
  · rw [e]; exact Nat.zero_le _
  · exact Nat.le_of_lt ((Nat.log2_lt e).mpr h)
theorem blend_bound {t b : Int} {L : Nat} (h0 : 0 ≤ t) (hL : t.toNat < L) (hb : 0 ≤ b) (hb2 : b ≤ 40014 * (t + 1) + 2147483648) : b.natAbs ≤ 40014 * L + 2147483648 := by omega
theorem lim_pow : 40014 * LIM + 2147483648 < 2 ^ 1000020 := by unfold LIM; decide +kernel
theorem blend_log {t b : Int} (h0 : 0 ≤ t) (hL : t.toNat < LIM) (hb : 0 ≤ b) (hb2 : b ≤ 40014 * (t + 1) + 2147483648) : (b.natAbs.log2 + 1 : Int) * 5 ≤ 2 ^ 27 := by
  have h3 := log_le (Nat.lt_of_le_of_lt (blend_bound h0 hL hb hb2) lim_pow)
  have h5 : (2 : Int) ^ 27 = 134217728 := by decide
  rw [h5]
  generalize b.natAbs.log2 = z at h3
  clear hL
  omega
/-- a def that lets nothing out -/
theorem FnOk.any {P : Program} {w : World} {K : PySem.W.Frag} {mg : Str → Option Value} {base : Heap} {CX : CXT} {k : Nat} {f : Addr} {fd : FuncData} {ps : List Str} {sp : Sp} (F : FnOk P w K mg base CX0 k f fd ps sp) : FnOk P w K mg base CX k f fd ps sp := by
  refine ⟨F.len, fun A outer s H args us vs Q E hr he hb hv hs => codeAny_mono (F.run A outer s H args us vs Q E hr he hb hv hs) fun r s' hq => ?_⟩
  cases r with
  | error e => exact hq.elim
  | ok fl => cases fl <;> exact hq
theorem canInts : ∀ ns : List Int, PyData.canLayAll0 (ns.map PyData.int) = true ∧ PyData.depthAll (ns.map PyData.int) = 0
  | [] => ⟨by simp [PyData.canLayAll0], by simp [PyData.depthAll]⟩
  | n :: ns => by
    obtain ⟨h1, h2⟩ := canInts ns
    constructor
    · simp [PyData.canLayAll0, PyData.canLay0, h1]
    · simp [PyData.depthAll, PyData.depth, h2]
theorem shapedInts (ns : List Int) : SeqAt.shaped (.list (ns.map PyData.int)) = true := by
  obtain ⟨h1, h2⟩ := canInts ns
  unfold SeqAt.shaped
  simp [PyData.canLay0, PyData.depth, h1, h2]
theorem dpI {K : PySem.W.Frag} {H : Hp} : ∀ ns : List Int, DpAll K H (ns.map V.int) (ns.map PyData.int)
  | [] => .nil
  | n :: ns => .cons (.int n) (dpI ns)
theorem eqv_nil (ns : List Int) : PyData.eqv (.list (ns.map PyData.int)) (.list []) = decide (ns = []) := by
  cases ns <;> simp [PyData.eqv, PyData.eqvAll]
/-! ### promises -/
/-- no new table -/
def NT (H H' : Hp) : Prop := ∀ a ps, H' a = some (.tbl ps) → H a = some (.tbl ps)
theorem NT.refl {H : Hp} : NT H H := fun _ _ e => e
theorem NT.upd {H H' : Hp} (n : NT H H') {a : Addr} {o : HO} (ho : ∀ ps, o ≠ .tbl ps := by intro _ z; cases z) : NT H (upd H' a o) := fun b ps e => by
  by_cases q : b = a
  · subst q; rw [upd_same] at e; cases e; exact absurd rfl (ho ps)
  · rw [upd_ne q] at e; exact n b ps e
theorem NT.trans {H H1 H2 : Hp} (a : NT H H1) (b : NT H1 H2) : NT H H2 := fun c ps e => a c ps (b c ps e)
def spBl (s gr ce : Addr) : Sp := fun vs H Q _ => vs = [.ref s] ∧ ∃ l t ns cs, GoodAt s gr ce l t ns cs H ∧ t.toNat < LIM ∧ ∀ (m : Int) H', 0 ≤ m → H' s = some (.dK (stK l (t + 1) gr ce)) → (∀ a o, H a = some o → a ≠ s → H' a = some o) → NT H H' → Q (.int m) H'
def spDr (s gr ce : Addr) : Sp := fun vs H Q _ => ∃ k : Int, vs = [.ref s, .int k] ∧ 0 < k ∧ k < 2 ^ 200 ∧ GoodD s gr ce H ∧ 0 < budD s H ∧ ∀ (m : Int) H', 0 ≤ m → m < k → GoodD s gr ce H' → budD s H ≤ budD s H' + 1 → budD s H' ≤ budD s H → (∀ a o, H a = some o → a ≠ s → a ≠ gr → H' a = some o) → NT H H' → Q (.int m) H'
def tDrawRest : TS := tSeq (tAsg (tOp (rI (fun _ j => 0 < j) fun i j => .int (i % j)) (tCB (fun xs H Q => (∃ i, xs = [.int i] ∧ Q (.int i) H) ∨ ∃ k, xs = [.bl k] ∧ Q (.int (if k then 1 else 0)) H) (tCons (tDGet (tVar 0) (tC (.str "left"))) tNil)) (tVar 1)) (gName 2))
  (tSeq (sDPut (tVar 0) (tC (.str "left")) (tOp (rI CDivW fun i j => .int (i / j)) (tDGet (tVar 0) (tC (.str "left"))) (tVar 1))) (tRet (tVar 2)))
theorem draw_rest {s gr ce : Addr} {l t k : Int} {ns cs : List Int} {H : Hp} {a2 : Option V} {D : Ends} (G : GoodAt s gr ce l t ns cs H) (k0 : 0 < k) (k1 : k < 2 ^ 200) (q : ∀ m, 0 ≤ m → m < k → D.rt (.int m) (upd H s (.dK (stK (l / k) t gr ce)))) :
    tDrawRest D [some (.ref s), some (.int k), a2] H := by
  have e1 := Int.emod_nonneg l (Int.ne_of_gt k0)
  have e2 := Int.emod_lt_of_pos l k0
  exact ⟨_, rfl, s, .int l, rfl, dg_left G, .inl ⟨l, rfl, _, rfl, _, _, rfl, rfl, k0, _, rfl, s, .int l, rfl, dg_left G, _, rfl, _, _, rfl, rfl, wide_div (b := 200) k0 (by omega) (by decide) (by decide), _, rfl, s, _, rfl, dp_left G, _, rfl, q _ e1 e2⟩⟩
theorem bud_step {L a b : Nat} (h1 : a ≤ b) (h2 : b ≤ a + 1) : L - a ≤ (L - b) + 1 ∧ L - b ≤ L - a := by omega
theorem bud_pos {L a : Nat} (h : 0 < L - a) : a < L := by omega
theorem ite_t {c : Bool} {A B : Prop} (hc : c = true) (h : A) : if c = true then A else B := by rw [if_pos hc]; exact h
theorem ite_f {c : Bool} {A B : Prop} (hc : c = false) (h : B) : if c = true then A else B := by rw [hc, if_neg Bool.false_ne_true]; exact h
end PV
end
section
set_option maxHeartbeats 4000000
/-! PvD2: the draws as the language has them; the beginning. -/
namespace PV
open PySem PySem.Spec PyProof.Rows L2
theorem turnOf_eq {s : Addr} {H H' : Hp} (e : H' s = H s) : turnOf s H' = turnOf s H := by unfold turnOf; rw [e]
/-- what is fixed once the state stands at s; T: the tables of code objects, Hs: the heap at the law's entry -/
def gD (P : Program) (w : World) (K : PySem.W.Frag) (mg : Str → Option Value) (base : Heap) (cad : Nat → Addr) (T : List (Addr × Str)) (Hs : Hp) (s gr ce : Addr) : G where
  P := P
  w := w
  K := K
  mg := mg
  base := base
  F := fun a => a = s ∨ a = gr ∨ a = ce ∨ ∃ ps, Hs a = some (.tbl ps)
  st := s
  good := fun H => GoodD s gr ce H ∧ LamX.Tabs T H ∧ (∀ a ps, H a = some (.tbl ps) → ∃ qs, Hs a = some (.tbl qs)) ∧ ∀ a ps, Hs a = some (.tbl ps) → ∃ qs, H a = some (.tbl qs)
  cad := cad
  bud := budD s
  gob := fun H H' _ h => by unfold budD; rw [turnOf_eq (h s (.inl rfl))]
  gof := fun H H' ⟨⟨hne, l, t, ns, cs, g⟩, tb, n1, n2⟩ h hx hn => by
    refine ⟨⟨hne, l, t, ns, cs, (h s (.inl rfl)).trans g.st, (h gr (.inr (.inl rfl))).trans g.gr, (h ce (.inr (.inr (.inl rfl)))).trans g.ce, g.l0, g.t0, g.n0, g.c0, g.nl, g.cl⟩, fun p hp => ?_, fun a ps e => n1 a ps (hn a ps e), fun a ps e => ?_⟩
    · obtain ⟨ps, h1, h2, h3⟩ := tb p hp
      exact ⟨ps, (h _ (.inr (.inr (.inr (n1 _ _ h1))))).trans h1, h2, fun pos cv hc => let ⟨c, e1, e2⟩ := h3 pos cv hc; ⟨c, e1, hx _ _ e2⟩⟩
    · obtain ⟨qs, e1⟩ := n2 a ps e
      exact ⟨qs, (h _ (.inr (.inr (.inr ⟨ps, e⟩)))).trans e1⟩
  gff := fun H a ⟨⟨_, l, t, ns, cs, g⟩, _, _, n2⟩ h => by
    rcases h with rfl | rfl | rfl | ⟨ps, e⟩
    · exact ⟨_, g.st⟩
    · exact ⟨_, g.gr⟩
    · exact ⟨_, g.ce⟩
    · obtain ⟨qs, e1⟩ := n2 a ps e
      exact ⟨_, e1⟩
  gfx := fun H a φ ⟨⟨_, l, t, ns, cs, g⟩, _, _, n2⟩ e f => by
    rcases f with rfl | rfl | rfl | ⟨ps, k⟩
    · rw [g.st] at e; cases e
    · rw [g.gr] at e; cases e
    · rw [g.ce] at e; cases e
    · obtain ⟨qs, e1⟩ := n2 a ps k
      rw [e1] at e; cases e
  T := T
  gtb := fun H h => h.2.1
  gtF := fun H a ps h e => .inr (.inr (.inr (h.2.2.1 a ps e)))
  Hs := Hs
  gts := fun H a ps h e => h.2.2.2 a ps e
  gln := fun H H1 _ ⟨⟨hne, l, t, ns, cs, g⟩, tb, n1, n2⟩ e t1 m1 m2 => by
    have es := e _ _ g.st (fun _ z => by cases z)
    refine ⟨⟨⟨hne, l, t, ns, cs, es, e _ _ g.gr (fun _ z => by cases z), e _ _ g.ce (fun _ z => by cases z), g.l0, g.t0, g.n0, g.c0, g.nl, g.cl⟩, t1, fun a ps q => ?_, m2⟩, ?_⟩
    · obtain ⟨qs, q1⟩ := m1 a ps q
      exact n1 a qs q1
    · unfold budD
      rw [turnOf_eq (es.trans g.st.symm)]
section
variable {P : Program} {w : World} {K : PySem.W.Frag} {mg : Str → Option Value} {base : Heap} {cad : Nat → Addr} {T : List (Addr × Str)} {Hs : Hp} {s gr ce : Addr} {f : Addr} {fd : FuncData}
theorem drawP_ok {ds : List D} {P : Nat → D → Prop} {E : Nat → Nat → Prop} {m : Nat} (h : (drawP ds).All P E m) : ∃ k, ds = [.sta, .int k] ∧ 0 < k ∧ k < 2 ^ 200 ∧ 0 < m ∧ ∀ d, 0 ≤ d → d < k → ∀ b', m ≤ b' + 1 → b' ≤ m → P b' (.int d) := by
  unfold drawP at h
  split at h
  · rename_i k
    split at h
    · rename_i c
      have c := of_decide_eq_true c
      exact ⟨k, rfl, c.1, c.2, h.1, h.2⟩
    · exact h.elim
  · exact h.elim
theorem fne_draw {Pt : Tab} {wh n N : Nat} (hn : n ≠ 0) (hN : 2 ≤ N) (F : FnOk P w K mg base CX0 2 f fd ["state", "size_here"] (spDr s gr ce)) (hm : mg "_law_draw" = some (.ref f)) (kp : PySem.W.keepIn K (.ref f) = true) (b : Binds K fd ["state", "size_here"] []) :
    FnE (gD P w K mg base cad T Hs s gr ce) (callF Pt wh (n + 1)) N 0 "_law_draw" 2 := by
  refine ⟨f, fd, _, hm, kp, b, rfl, FnOk.imp (FnOk.any (F.mono (by omega))) fun vs H Q E h => ?_⟩
  obtain ⟨Z, ds, p, r, a⟩ := h
  have e : callF Pt wh (n + 1) 0 ds = drawP ds := if_neg hn
  rw [e] at a
  obtain ⟨k, rfl, k0, k1, hb, h⟩ := drawP_ok a
  cases r with
  | cons r1 r2 =>
    cases r1
    cases r2 with
    | cons r1 r2 =>
      cases r1
      cases r2
      refine ⟨k, rfl, k0, k1, p.good.1, hb, fun m H' m0 m1 g0 b1 b2 fr nt => ?_⟩
      have fr' : ∀ a o, H a = some o → ¬ (gD P w K mg base cad T Hs s gr ce).F a → H' a = some o := fun a o e hf => fr a o e (fun z => hf (.inl z)) fun z => hf (.inr (.inl z))
      obtain ⟨⟨_, l, t, ns, cs, gg⟩, tb, n1, n2⟩ := p.good
      have keep : ∀ a o, H a = some o → (∀ kvs, o ≠ .dK kvs) → (∀ xs, o ≠ .lst xs) → H' a = some o := fun a o e h1 h2 => fr a o e (fun z => by rw [z, gg.st] at e; cases e; exact h1 _ rfl) fun z => by rw [z, gg.gr] at e; cases e; exact h2 _ rfl
      have g' : (gD P w K mg base cad T Hs s gr ce).good H' := by
        refine ⟨g0, fun q hq => ?_, fun a ps e => n1 a ps (nt a ps e), fun a ps e => ?_⟩
        · obtain ⟨ps, h1, h2, h3⟩ := tb q hq
          exact ⟨ps, keep _ _ h1 (fun _ z => by cases z) (fun _ z => by cases z), h2, fun pos cv hc => let ⟨c, e1, e2⟩ := h3 pos cv hc; ⟨c, e1, keep _ _ e2 (fun _ z => by unfold LamX.CodeO at z; cases z) (fun _ z => by unfold LamX.CodeO at z; cases z)⟩⟩
        · obtain ⟨qs, e1⟩ := n2 a ps e
          exact ⟨qs, keep _ _ e1 (fun _ z => by cases z) (fun _ z => by cases z)⟩
      have st : Step (gD P w K mg base cad T Hs s gr ce) Z H Z H' := ⟨fun _ _ e => e, fun a o e => fr' a o (p.zh a o e) fun z => (by rw [p.zf a z] at e; cases e), fr', fun _ _ e => .inl e, p.zf, g'⟩
      exact h m m0 m1 (budD s H') b1 b2 (.int m) Z H' st rfl (.of (.int m))
end

/-- a heap without its tables -/
abbrev noT (H : Hp) : Hp := dropT (fun _ => none) H
theorem noT_none {H : Hp} {a : Addr} {ps : Array Value} (h : H a = some (.tbl ps)) : noT H a = none := by
  rcases none_or (H := noT H) (a := a) with e | ⟨u, e⟩
  · exact e
  · have q := dropT_sub e
    rw [h] at q
    cases q
    obtain ⟨_, z⟩ := dropT_new e
    cases z
theorem noT_sq {K : PySem.W.Frag} {H : Hp} {a : Addr} {xs : List V} (h : SqL K H a xs) : SqL K (noT H) a xs := by
  rcases h with (h | ⟨o, h⟩) | h
  · exact .inl (.inl (dropT_keep h fun _ z => by cases z))
  · exact .inl (.inr ⟨o, dropT_keep h fun _ z => by cases z⟩)
  · exact .inr h
/-! ### the beginning -/
def g0 (P : Program) (w : World) (K : PySem.W.Frag) (mg : Str → Option Value) (base : Heap) (Hs : Hp) : G where
  P := P
  w := w
  K := K
  mg := mg
  base := base
  F := fun a => ∃ ps, Hs a = some (.tbl ps)
  st := 0
  good := fun H => (∀ a ps, Hs a = some (.tbl ps) → H a = some (.tbl ps)) ∧ ∀ a ps, H a = some (.tbl ps) → Hs a = some (.tbl ps)
  cad := fun _ => 0
  bud := fun _ => 0
  gob := fun _ _ _ _ => rfl
  gof := fun H H' ⟨h1, h2⟩ h _ hn => ⟨fun a ps e => (h a ⟨ps, e⟩).trans (h1 a ps e), fun a ps e => h2 a ps (hn a ps e)⟩
  gff := fun H a ⟨h1, _⟩ ⟨ps, e⟩ => ⟨_, h1 a ps e⟩
  gfx := fun H a φ ⟨h1, _⟩ e ⟨ps, k⟩ => by
    rw [h1 a ps k] at e
    cases e
  T := []
  gtb := fun H _ p hp => by cases hp
  gtF := fun H a ps h e => ⟨ps, h.2 a ps e⟩
  Hs := Hs
  gts := fun H a ps h e => ⟨ps, h.1 a ps e⟩
  gln := fun _ _ h => absurd rfl h
def NG : List Str := ["script", "great", "cell"]
def ckG : Ck := { N := NG, fns := [], cons := [], cls := [] }
def xAbs : X := .blt .abs (.cons (.var 2) .nil)
def xBig : X := .bin .pow (.int 10) (.int 18)
def xGreat : X := .comp (.nm 2) (.var 0) (.cmp .ge xAbs xBig) (.bin .sub xAbs xBig) [("cell", 2)]
def xCells : X := .comp (.nm 2) (.var 0) .yes xAbs [("cell", 2)]
def absI (i : Int) : Int := if i < 0 then -i else i
def greatL (ns : List Int) : List Int := ns.filterMap fun n => if absI n ≥ 10 ^ 18 then some (absI n - 10 ^ 18) else none
def cellsL (ns : List Int) : List Int := ns.map absI
theorem compL_ints {f : D → T (Option D)} {h : Int → Option Int} (e : ∀ n, f (.int n) = .ret ((h n).map D.int)) : ∀ ns : List Int, compL f (ns.map D.int) = .ret ((ns.filterMap h).map D.int)
  | [] => rfl
  | n :: ns => by
    rw [List.map_cons]
    unfold compL
    rw [e n, ret_bind, compL_ints e ns, ret_bind, List.filterMap_cons]
    cases h n <;> rfl
theorem pow18 : binT .pow (.int 10) (.int 18) = .ret (.int (10 ^ 18)) := by
  show powT (.int 10) (.int 18) = _
  unfold powT
  simp
theorem ev_great {call : Nat → List D → T D} {ns : List Int} {a b : Sl} : ev call xGreat [.val (.scr ns), a, b] = .ret (.new ((greatL ns).map D.int)) := by
  have e : ∀ n : Int, compF (.nm 2) [2] (evs call (.cmp .ge xAbs xBig)).B (evs call (.bin .sub xAbs xBig)).E [.val (.scr ns), a, b] (.int n) = .ret (((if absI n ≥ 10 ^ 18 then some (absI n - 10 ^ 18) else none : Option Int)).map D.int) := fun n => by
    have e1 : (evs call xAbs).E [.val (.scr ns), a, .val (.int n)] = .ret (.int (absI n)) := rfl
    have e2 : (evs call xBig).E [.val (.scr ns), a, .val (.int n)] = .ret (.int (10 ^ 18)) := pow18
    have e3 : (evs call (.cmp .ge xAbs xBig)).B [.val (.scr ns), a, .val (.int n)] = .ret (decide ((10 : Int) ^ 18 ≤ absI n)) := by
      show ((evs call xAbs).E _ >>= fun x => (evs call xBig).E _ >>= fun y => cmpT .ge x y >>= fun c => .ret (.bl c)) >>= toB = _
      rw [e1, ret_bind, e2]
      rfl
    have e4 : (evs call (.bin .sub xAbs xBig)).E [.val (.scr ns), a, .val (.int n)] = .ret (.int (absI n - 10 ^ 18)) := by
      show ((evs call xAbs).E _ >>= fun x => (evs call xBig).E _ >>= fun y => binT .sub x y) = _
      rw [e1, ret_bind, e2]
      rfl
    show ((evs call (.cmp .ge xAbs xBig)).B [.val (.scr ns), a, .val (.int n)] >>= fun k => if k = true then (evs call (.bin .sub xAbs xBig)).E [.val (.scr ns), a, .val (.int n)] >>= fun y => fz y >>= fun y => .ret (some y) else .ret none) = _
    rw [e3, ret_bind]
    by_cases c : (10 : Int) ^ 18 ≤ absI n
    · rw [if_pos (decide_eq_true c), e4, if_pos c]
      rfl
    · rw [if_neg (by simpa using c), if_neg c]
      rfl
  show (noErr (compL (compF (.nm 2) [2] (evs call (.cmp .ge xAbs xBig)).B (evs call (.bin .sub xAbs xBig)).E [.val (.scr ns), a, b]) (ns.map D.int)) >>= fun ys => T.ret (D.new ys)) = _
  rw [compL_ints e ns]
  rfl
theorem ev_cells {call : Nat → List D → T D} {ns : List Int} {a b : Sl} : ev call xCells [.val (.scr ns), a, b] = .ret (.new ((cellsL ns).map D.int)) := by
  have e : ∀ n : Int, compF (.nm 2) [2] (evs call .yes).B (evs call xAbs).E [.val (.scr ns), a, b] (.int n) = .ret ((some (absI n)).map D.int) := fun n => rfl
  show (noErr (compL (compF (.nm 2) [2] (evs call .yes).B (evs call xAbs).E [.val (.scr ns), a, b]) (ns.map D.int)) >>= fun ys => T.ret (D.new ys)) = _
  rw [compL_ints e ns]
  have : ns.filterMap (fun n => some (absI n)) = cellsL ns := by unfold cellsL; rw [List.filterMap_eq_map']
  rw [this]
  rfl
theorem intsD_map : ∀ ns : List Int, intsD (ns.map D.int) = some ns
  | [] => rfl
  | n :: ns => by
    show (intsD (ns.map D.int)).map (n :: ·) = _
    rw [intsD_map ns]
    rfl
theorem absI_nn (i : Int) : 0 ≤ absI i := by unfold absI; split <;> omega
theorem great_nn {ns : List Int} : ∀ n ∈ greatL ns, 0 ≤ n := fun n h => by
  obtain ⟨m, _, e⟩ := List.mem_filterMap.mp h
  split at e
  · cases e; omega
  · cases e
theorem cells_nn {ns : List Int} : ∀ n ∈ cellsL ns, 0 ≤ n := fun n h => by
  obtain ⟨m, _, e⟩ := List.mem_map.mp h
  rw [← e]
  exact absI_nn m
theorem great_len (ns : List Int) : (greatL ns).length ≤ ns.length := List.length_filterMap_le ..
theorem cells_len (ns : List Int) : (cellsL ns).length = ns.length := List.length_map ..
theorem merge_st {gr ce : Addr} : mergeK [] (stK 0 0 gr ce) = stK 0 0 gr ce := by
  have h1 : ¬ (Sum.inr "great" : Key) = .inr "cells" := kne (by decide +kernel)
  have h2 : ¬ (Sum.inr "great" : Key) = .inr "left" := kne (by decide +kernel)
  have h3 : ¬ (Sum.inr "great" : Key) = .inr "turn" := kne (by decide +kernel)
  have h4 : ¬ (Sum.inr "cells" : Key) = .inr "left" := kne (by decide +kernel)
  have h5 : ¬ (Sum.inr "cells" : Key) = .inr "turn" := kne (by decide +kernel)
  have h6 : ¬ (Sum.inr "left" : Key) = .inr "turn" := kne (by decide +kernel)
  simp only [mergeK, stK, List.foldl_cons, List.foldl_nil, putK, List.any_nil, List.any_cons, h1, h2, h3, h4, h5, h6, decide_false, Bool.or_false, Bool.false_or, if_neg Bool.false_ne_true, List.nil_append, List.cons_append]
def spBg (K : PySem.W.Frag) : Sp := fun vs H Q _ => ∃ a ns, vs = [.ref a] ∧ SqL K H a (ns.map V.int) ∧ ns.length ≤ 63 ∧
  ∀ s gr ce H', gr ≠ ce → GoodAt s gr ce 0 0 (greatL ns) (cellsL ns) H' → H s = none → H gr = none → H ce = none → (∀ b o, H b = some o → H' b = some o) → NT H H' → Q (.ref s) H'
end PV
end
section
set_option maxHeartbeats 4000000
/-! PvJ: the law's def. -/
namespace PV
open PySem PySem.Spec PyProof.Rows L2
section
variable {P : Program} {w : World} {K : PySem.W.Frag} {mg : Str → Option Value} {base : Heap} {cad : Nat → Addr} {T : List (Addr × Str)}
/-- a frame's lambdas -/
def gfD (g : G) (ck : Ck) (sc : Scope) (env : PySem.Env) : GF := { toG := g, cl := env.cells, q := env.qual, lk := fun k pa bo scp => lamOkB ck sc k pa bo scp = true, lt := fun t => ck.ltab.lookup t }
def canS (ck : Ck) (sc : Scope) (env : PySem.Env) (P : Program) (w : World) (K : PySem.W.Frag) (mg : Str → Option Value) (base : Heap) (cad : Nat → Addr) (T : List (Addr × Str)) (Hs : Hp) (W : Nat → Hp → Prop) (f : Env → PV.T Fl) : TS := fun Dn σ H =>
  ∃ (s gr ce : Addr) (Z0 H0 : Hp) (r : Env) (Z : Hp), SCfg (gfD (gD P w K mg base cad T Hs s gr ce) ck sc env) Z0 H0 r Z σ H ∧ (f r).All (PostF (gfD (gD P w K mg base cad T Hs s gr ce) ck sc env) Z0 H0 Z Dn) (PostE (gD P w K mg base cad T Hs s gr ce) Z0 H0 W) ((gD P w K mg base cad T Hs s gr ce).bud H)
theorem rest_can {ck : Ck} {sc : Scope} {env : PySem.Env} {C : Cx} {Hs : Hp} {W : Nat → Hp → Prop} {sts : List Stmt} {f : Env → PV.T Fl} (h : ∀ s gr ce Z0 H0, SSs (gfD (gD P w K mg base cad T Hs s gr ce) ck sc env) C W Z0 H0 sts f) : PSs C sts (canS ck sc env P w K mg base cad T Hs W f) := by
  refine ⟨fun pins s σ H D I ⟨s', gr, ce, Z0, H0, r, Z, c, a⟩ => ?_⟩
  obtain ⟨t, h1, h2⟩ := h s' gr ce Z0 H0
  exact h1.run pins s σ H D I (h2 r Z σ H D c a)
theorem start_set {N : List Str} {x y : V} (h : 2 ≤ N.length) : (L2.start N [x]).set 1 (some y) = L2.start N [x, y] := by
  match N, h with
  | _ :: _ :: N, _ =>
    unfold L2.start
    have e1 : (N.length + 1 + 1) - 1 = N.length + 1 := rfl
    have e2 : (N.length + 1 + 1) - 2 = N.length := rfl
    simp only [List.length_cons, List.map_cons, List.map_nil, List.length_nil, e1, e2, List.replicate_succ, List.cons_append, List.nil_append, List.set_cons_succ, List.set_cons_zero]
  | [_], h => simp at h
  | [], h => simp at h
theorem sub_toNat0 (L : Nat) : L - (0 : Int).toNat = L := Nat.sub_zero L
def spLaw (K : PySem.W.Frag) (T : List (Addr × Str)) : Sp := fun vs H Q _ => ∃ (a : Addr) (ns : List Int), vs = [.ref a] ∧ SqL K H a (ns.map V.int) ∧ ns.length ≤ 63 ∧ (∀ p ∈ T, H p.1 = some (.tbl #[])) ∧ ∀ H', Q (.bl true) H'
/-- the draws that are left at the start -/
theorem law_ok {ck : Ck} {m n wh : Nat} {Pt : Tab} {x : Str} {st s0 : Stmt} {rest : List Stmt} {body : S} {f : Addr} {fd : FuncData} (F : FunD K x x (defArgs st) (defBody st) (defScope st) [] [] f fd) (S : FnScope ck.N ["script"] (defScope st)) (hN : 2 ≤ ck.N.length)
    (fa : ∀ Hs s gr ce, Facts (gD P w K mg base cad T Hs s gr ce) ck (callF Pt wh m) n) (hb : defBody st = s0 :: rest)
    (h0 : ∀ (cdv : Value) (A : Around) (outer : List PySem.Env) (s : Shared) (H : Hp) (E : XK), Room n (A.deeper (envOfC x (defScope st) s.heap.objs.size f cdv)) → PS (cxOf CX0 P w K mg base ck.N x (defScope st) f cdv A outer s H E).nox s0 (tAsg (tCall (spBg K) [] E0 (tCons (tVar 0) tNil)) (gName 1)))
    (hlam : ck.lam = some (defScope st) → ∀ Hs s gr ce, LamD (gD P w K mg base cad T Hs s gr ce) x fd) (hcls : ck.cls = []) (hc : chkB ck body (defScope st) rest = true)
    (hT : ∀ ns : List Int, ns.length ≤ 63 → (ex (callF Pt wh m) wh body (startE ck.N [.scr ns, .sta])).All (fun _ fl => fl = .rt (.bl true)) (fun _ _ => False) LIM) :
    FnOk P w K mg base CX0 (n + 4) f fd ["script"] (spLaw K T) := by
  refine okC F S (fun vs H Q E h => by obtain ⟨a, ns, rfl, _⟩ := h; rfl) (fun A outer s H vs Q E hr h => ?_)
  obtain ⟨a, ns, rfl, hS, hl, hTb, q⟩ := h
  have hrest : PSs (cxOf CX0 P w K mg base ck.N x (defScope st) f fd.code A outer s H E).nox rest (canS ck (defScope st) (envOfC x (defScope st) s.heap.objs.size f fd.code) P w K mg base cad T H (fun _ _ => False) (ex (callF Pt wh m) wh body)) := by
    refine rest_can fun s' gr ce Z0 H0 => ?_
    have c : CtxD (gfD (gD P w K mg base cad T H s' gr ce) ck (defScope st) (envOfC x (defScope st) s.heap.objs.size f fd.code)) ck (defScope st) (fun _ _ => False) n (cxOf CX0 P w K mg base ck.N x (defScope st) f fd.code A outer s H E).nox :=
      ⟨⟨rfl, rfl, rfl, rfl, rfl, rfl, fun e => ⟨hr, rfl, rfl, rfl, fun _ _ _ _ => Iff.rfl, rfl, hlam e H s' gr ce, fun a ps z => ⟨ps, z⟩⟩, rfl, rfl, hr.mono (by omega), takes0.imp fun _ _ _ _ ⟨_, _, _, h⟩ => h.elim⟩, S.kind, PassesOwn.never, fun _ => rfl, fun k x h => by rw [hcls] at h; cases h⟩
    exact (soundS (wh := wh) (Z0 := Z0) (H0 := H0) c (fa H s' gr ce) body).B _ hc
  rw [hb]
  refine ⟨_, PSs.nox (pss_cons (h0 fd.code A outer s H E (hr.mono (by omega))) hrest), ?_⟩
  have g0 : (L2.start ck.N [V.ref a])[0]? = some (some (.ref a)) := by unfold L2.start; rfl
  refine ⟨_, g0, a, ns, rfl, hS, hl, fun s' gr ce H' hne G n1 n2 n3 fr nt => ?_⟩
  refine ⟨s', gr, ce, noT H, H', startE ck.N [.scr ns, .sta], noT H, ?_, ?_⟩
  · rw [start_set hN]
    have pre : Pre (gD P w K mg base cad T H s' gr ce) (noT H) H' := by
      refine ⟨fun b o e => fr b o (dropT_sub e), fun b hb => ?_, ⟨hne, _, _, _, _, G⟩, LamX.Tabs.ext (fun p hp => LamX.TabS.nil (hTb p hp)) fr, fun b ps e => ⟨ps, nt b ps e⟩, fun b ps e => ⟨ps, fr b _ e⟩⟩
      rcases hb with rfl | rfl | rfl | ⟨ps, e⟩
      · exact dropT_none n1
      · exact dropT_none n2
      · exact dropT_none n3
      · exact noT_none e
    exact start_cfg (g := gfD (gD P w K mg base cad T H s' gr ce) ck (defScope st) (envOfC x (defScope st) s.heap.objs.size f fd.code)) pre (.cons (.scr (noT_sq hS) hl) (.cons .sta .nil)) hN
  · have eb : (gD P w K mg base cad T H s' gr ce).bud H' = LIM := by
      show budD s' H' = LIM
      rw [GoodAt.bud G]
      exact sub_toNat0 LIM
    rw [eb]
    refine All.mono (hT ns hl) (fun fl e => ?_) fun _ e => e.elim
    subst e
    intro v Z' H2 _ _ r
    cases r
    exact q H2
end
/-- a def called by keywords alone -/
theorem bindsK {K : PySem.W.Frag} {x qual : Str} {params : Arguments} {body : List Stmt} {scope : Scope} {kws : List (Str × V)} {f : Addr} {fd : FuncData} {ps ks : List Str} {perm : List Nat} (F : FunD K x qual params body scope [] kws f fd)
    (h : ∀ (kV doc pm : Value) (an : Option Addr) (cdv ct : Value) (ws ys : List Value), ws.length = ks.length → permL perm ws = some ys → bindArgs (PySem.W.fnOf x qual params body scope .none kV doc pm an cdv ct) ⟨[], ks.zip ws⟩ = pure (ps.zip ys)) :
    ∀ (s : Shared) (ws ys : List Value), K.In s.heap → ws.length = ks.length → permL perm ws = some ys → BindsTo s fd ⟨[], ks.zip ws⟩ (ps.zip ys) := by
  obtain ⟨oc, od, dV, kV, doc, pm, an, cdv, ct, osl, rfl, lk, hcd, hD, hK⟩ := F.ex
  rcases hD with ⟨_, rfl⟩ | ⟨e, _⟩
  · exact fun s ws ys _ hl hy => .of_eq (h kV doc pm an cdv ct ws ys hl hy)
  · exact absurd rfl e
/-- a def called by some positions, some keywords -/
theorem bindsM {K : PySem.W.Frag} {x qual : Str} {params : Arguments} {body : List Stmt} {scope : Scope} {kws : List (Str × V)} {f : Addr} {fd : FuncData} {ps ks : List Str} {m : Nat} {perm : List Nat} (F : FunD K x qual params body scope [] kws f fd)
    (h : ∀ (kV doc pm : Value) (an : Option Addr) (cdv ct : Value) (us ws ys : List Value), us.length = m → ws.length = ks.length → permL perm (us ++ ws) = some ys → bindArgs (PySem.W.fnOf x qual params body scope .none kV doc pm an cdv ct) ⟨us, ks.zip ws⟩ = pure (ps.zip ys)) :
    ∀ (s : Shared) (us ws ys : List Value), K.In s.heap → us.length = m → ws.length = ks.length → permL perm (us ++ ws) = some ys → BindsTo s fd ⟨us, ks.zip ws⟩ (ps.zip ys) := by
  obtain ⟨oc, od, dV, kV, doc, pm, an, cdv, ct, osl, rfl, lk, hcd, hD, hK⟩ := F.ex
  rcases hD with ⟨_, rfl⟩ | ⟨e, _⟩
  · exact fun s us ws ys _ hu hl hy => .of_eq (h kV doc pm an cdv ct us ws ys hu hl hy)
  · exact absurd rfl e
end PV
end
section
set_option maxHeartbeats 4000000
/-! PvC: how many numbers a run draws at most. -/
namespace PV
open PySem
namespace T
/-- whatever is drawn -/
def All0 {a : Type} (P : a → Prop) (E : Nat → Prop) : T a → Prop
  | .ret x => P x
  | .err c => E c
  | .bad => False
  | .draw n k => ∀ d, 0 ≤ d → d < n → All0 P E (k d)
/-- what holds of the answers there are -/
def Ans {a : Type} (P : a → Prop) : T a → Prop
  | .ret x => P x
  | .err _ => True
  | .bad => True
  | .draw _ k => ∀ d, Ans P (k d)
/-- at most n draws -/
def le {a : Type} : T a → Nat → Prop
  | .draw _ _, 0 => False
  | .draw _ k, n + 1 => ∀ d, le (k d) n
  | _, _ => True
end T
open T
section
variable {a b : Type}
theorem le_mono {t : T a} {n m : Nat} (h : le t n) (hm : n ≤ m) : le t m := by
  induction t generalizing n m with
  | ret x => cases m <;> trivial
  | err c => cases m <;> trivial
  | bad => cases m <;> trivial
  | draw k f ih =>
    cases n with
    | zero => exact h.elim
    | succ n =>
      cases m with
      | zero => omega
      | succ m => exact fun d => ih d (h d) (by omega)
theorem le_bindA {t : T a} {f : a → T b} {P : a → Prop} {n m : Nat} (h : le t n) (hA : t.Ans P) (hf : ∀ x, P x → le (f x) m) : le (t >>= f) (n + m) := by
  show le (T.bind t f) (n + m)
  induction t generalizing n with
  | ret x => exact le_mono (hf x hA) (by omega)
  | err c => show le (T.err c) _; cases n + m <;> trivial
  | bad => show le T.bad _; cases n + m <;> trivial
  | draw k g ih =>
    cases n with
    | zero => exact h.elim
    | succ n =>
      have e : n + 1 + m = (n + m) + 1 := by omega
      rw [e]
      exact fun d => ih d (h d) (hA d)
theorem ans_triv {t : T a} : t.Ans fun _ => True := by
  induction t with
  | ret x => trivial
  | err c => trivial
  | bad => trivial
  | draw k g ih => exact fun d => ih d
theorem ans_mono {t : T a} {P Q : a → Prop} (h : t.Ans P) (hq : ∀ x, P x → Q x) : t.Ans Q := by
  induction t with
  | ret x => exact hq x h
  | err c => trivial
  | bad => trivial
  | draw k g ih => exact fun d => ih d (h d)
theorem ans_bind {t : T a} {f : a → T b} {P : b → Prop} (h : ∀ x, (f x).Ans P) : (t >>= f).Ans P := by
  show (T.bind t f).Ans P
  induction t with
  | ret x => exact h x
  | err c => trivial
  | bad => trivial
  | draw k g ih => exact fun d => ih d
theorem le_bind {t : T a} {f : a → T b} {n m : Nat} (h : le t n) (hf : ∀ x, le (f x) m) : le (t >>= f) (n + m) := le_bindA h ans_triv fun x _ => hf x
theorem le_bind0 {t : T a} {f : a → T b} {n : Nat} (h : le t n) (hf : ∀ x, le (f x) 0) : le (t >>= f) n := le_bind (m := 0) h hf
theorem le_ret {x : a} {n : Nat} : le (T.ret x) n := by cases n <;> trivial
theorem le_err {c : Nat} {n : Nat} : le (T.err c : T a) n := by cases n <;> trivial
theorem le_bad {n : Nat} : le (T.bad : T a) n := by cases n <;> trivial
theorem le_ofO {o : Option a} {n : Nat} : le (ofO o) n := by cases o <;> first | exact le_ret | exact le_bad
theorem le_noErr {t : T a} {n : Nat} (h : le t n) : le (noErr t) n := by
  induction t generalizing n with
  | ret x => exact le_ret
  | err c => exact le_bad
  | bad => exact le_bad
  | draw k f ih =>
    cases n with
    | zero => exact h.elim
    | succ n => exact fun d => ih d (h d)
/-- joined -/
theorem all_of {P : a → Prop} {E : Nat → Prop} {t : T a} {n m : Nat} (h : t.All0 P E) (hl : le t n) (hm : n ≤ m) : t.All (fun _ x => P x) (fun _ c => E c) m := by
  induction t generalizing n m with
  | ret x => exact h
  | err c => exact h
  | bad => exact h
  | draw k f ih =>
    cases n with
    | zero => exact hl.elim
    | succ n => exact ⟨by omega, fun d h0 h1 m' h2 h3 => ih d (h d h0 h1) (hl d) (by omega)⟩
theorem all0_bind {P : b → Prop} {E : Nat → Prop} {f : a → T b} {t : T a} : (t >>= f).All0 P E ↔ t.All0 (fun x => (f x).All0 P E) E := by
  show (T.bind t f).All0 P E ↔ _
  induction t with
  | ret x => exact Iff.rfl
  | err c => exact Iff.rfl
  | bad => exact Iff.rfl
  | draw n k ih => exact ⟨fun h d h0 h1 => (ih d).mp (h d h0 h1), fun h d h0 h1 => (ih d).mpr (h d h0 h1)⟩
theorem All0.mono {P Q : a → Prop} {E F : Nat → Prop} {t : T a} (h : t.All0 P E) (hp : ∀ x, P x → Q x) (he : ∀ c, E c → F c) : t.All0 Q F := by
  induction t with
  | ret x => exact hp x h
  | err c => exact he c h
  | bad => exact h
  | draw n k ih => exact fun d h0 h1 => ih d (h d h0 h1)
end

/-! ### what draws nothing -/
theorem le_deq {x y : D} {n : Nat} : le (deq x y) n := by unfold deq; split <;> first | exact le_ret | exact le_bad
theorem le_bin {op : BOp} {x y : D} {n : Nat} : le (binT op x y) n := by
  cases op
  · show le (addT x y) n
    unfold addT lenIf
    repeat' split
    all_goals first | exact le_ret | exact le_bad
  · show le (subT x y) n
    unfold subT
    split <;> first | exact le_ret | exact le_bad
  · show le (mulT x y) n
    unfold mulT
    repeat' split
    all_goals first | exact le_ret | exact le_bad
  · show le (fdivT x y) n
    unfold fdivT
    repeat' split
    all_goals first | exact le_ret | exact le_bad
  · show le (modT x y) n
    unfold modT
    repeat' split
    all_goals first | exact le_ret | exact le_bad
  · show le (powT x y) n
    unfold powT
    repeat' split
    all_goals first | exact le_ret | exact le_bad
theorem le_isB {x : D} {k : Bool} {n : Nat} : le (isB x k) n := by
  unfold isB
  split <;> first | exact le_ret | exact le_bad
theorem le_isT {x y : D} {n : Nat} : le (isT x y) n := by
  unfold isT isNon
  repeat' split
  all_goals first | exact le_isB | exact le_ret | exact le_bad
theorem le_innT {x y : D} {n : Nat} : le (innT x y) n := by
  unfold innT
  repeat' split
  all_goals first | exact le_ret | exact le_bad
theorem le_cmp {op : COp} {x y : D} {n : Nat} : le (cmpT op x y) n := by
  cases op
  · show le (ltT x y) n
    unfold ltT
    repeat' split
    all_goals first | exact le_ret | exact le_bad
  · show le (leT x y) n
    unfold leT
    split <;> first | exact le_ret | exact le_bad
  · show le (gtT x y) n
    unfold gtT
    split <;> first | exact le_ret | exact le_bad
  · show le (geT x y) n
    unfold geT
    split <;> first | exact le_ret | exact le_bad
  · exact le_deq
  · exact le_bind0 le_deq fun _ => le_ret
  · exact le_isT
  · exact le_bind0 le_isT fun _ => le_ret
  · exact le_innT
  · exact le_bind0 le_innT fun _ => le_ret
theorem le_idx {x y : D} {n : Nat} : le (idxT x y) n := by
  unfold idxT
  split <;> first | exact le_ofO | exact le_bad
theorem le_slc {x : D} {l h : Option Int} {n : Nat} : le (slcT x l h) n := by
  unfold slcT
  split <;> first | exact le_ret | exact le_bad
theorem le_isk {k : D → Option Bool} {ds : List D} {n : Nat} : le (isKind k ds) n := by
  unfold isKind
  repeat' split
  all_goals first | exact le_ret | exact le_bad
theorem le_absB {ds : List D} {n : Nat} : le (absB ds) n := by
  unfold absB
  repeat' split
  all_goals first | exact le_ret | exact le_bad
theorem le_maxB {ds : List D} {n : Nat} : le (maxB ds) n := by
  unfold maxB
  repeat' split
  all_goals first | exact le_ret | exact le_bad
theorem le_minB {ds : List D} {n : Nat} : le (minB ds) n := by
  unfold minB
  repeat' split
  all_goals first | exact le_ret | exact le_bad
theorem le_lenB {ds : List D} {n : Nat} : le (lenB ds) n := by
  unfold lenB
  repeat' split
  all_goals first | exact le_ret | exact le_bad
theorem le_sumB {ds : List D} {n : Nat} : le (sumB ds) n := by
  unfold sumB
  repeat' split
  all_goals first | exact le_ret | exact le_bad
theorem le_allB {ds : List D} {n : Nat} : le (allB ds) n := by
  unfold allB
  repeat' split
  all_goals first | exact le_ret | exact le_bad
theorem le_anyB {ds : List D} {n : Nat} : le (anyB ds) n := by
  unfold anyB
  repeat' split
  all_goals first | exact le_ret | exact le_bad
theorem le_sortedB {ds : List D} {n : Nat} : le (sortedB ds) n := by
  unfold sortedB
  repeat' split
  all_goals first | exact le_ret | exact le_bad
theorem le_listB {ds : List D} {n : Nat} : le (listB ds) n := by
  unfold listB
  repeat' split
  all_goals first | exact le_ret | exact le_bad
theorem le_tupleB {ds : List D} {n : Nat} : le (tupleB ds) n := by
  unfold tupleB
  repeat' split
  all_goals first | exact le_ret | exact le_bad
theorem le_intB {ds : List D} {n : Nat} : le (intB ds) n := by
  unfold intB
  repeat' split
  all_goals first | exact le_ret | exact le_bad
theorem le_gcdB {ds : List D} {n : Nat} : le (gcdB ds) n := by
  unfold gcdB
  split <;> first | exact le_ret | exact le_bad
theorem le_combB {ds : List D} {n : Nat} : le (combB ds) n := by
  unfold combB
  split
  · split <;> first | exact le_ret | exact le_bad
  · exact le_bad
theorem le_strB {ds : List D} {n : Nat} : le (strB ds) n := by
  unfold strB
  split
  · split <;> first | exact le_ret | exact le_bad
  · exact le_bad
theorem le_op1 {o : O1} {d : D} {n : Nat} : le (op1T o d) n := by
  unfold op1T
  split <;> first | exact le_ret | exact le_bad
theorem le_isx {nx k : Nat} {d : D} {n : Nat} : le (isxT nx k d) n := by
  unfold isxT
  split
  · split <;> first | exact le_ret | exact le_bad
  · exact le_ret
  · exact le_bad
theorem le_catch {nx : Nat} {t : T D} {n : Nat} (h : le t n) : le (catchT nx t) n := by
  induction t generalizing n with
  | ret x => exact le_ret
  | err c =>
    show le (if c < nx then T.ret (D.exc c) else .bad) n
    split <;> first | exact le_ret | exact le_bad
  | bad => exact le_bad
  | draw k f ih =>
    cases n with
    | zero => exact h.elim
    | succ n => exact fun d => ih d (h d)
theorem le_blt {f : Blt} {ds : List D} {n : Nat} : le (bltT f ds) n := by
  cases f <;> first
    | exact le_isk
    | exact le_absB
    | exact le_maxB
    | exact le_minB
    | exact le_lenB
    | exact le_sumB
    | exact le_allB
    | exact le_anyB
    | exact le_sortedB
    | exact le_listB
    | exact le_tupleB
    | exact le_intB
    | exact le_gcdB
    | exact le_combB
    | exact le_strB
theorem le_fz {d : D} {n : Nat} : le (fz d) n := by
  unfold fz
  split <;> first | exact le_ret | exact le_bad
theorem le_bindTg {tg : Tg} {d : D} {r : Env} {n : Nat} : le (bindTg tg d r) n := by
  unfold bindTg
  split <;> first | exact le_ret | exact le_ofO | exact le_bad
theorem le_getV {r : Env} {i : Nat} {n : Nat} : le (getV r i) n := by
  unfold getV
  split <;> first | exact le_ret | exact le_bad
theorem le_toB {d : D} {n : Nat} : le (toB d) n := by
  unfold toB
  split <;> first | exact le_ret | exact le_bad
theorem le_rngI {i j : Int} {n : Nat} : le (rngI i j) n := by
  unfold rngI
  split <;> first | exact le_ret | exact le_bad
theorem ans_rngI {i j : Int} : (rngI i j).Ans fun ds => ds.length ≤ lim := by
  unfold rngI
  split
  · rename_i h
    have h := of_decide_eq_true h
    show ((List.range (j - i).toNat).map _).length ≤ lim
    rw [List.length_map, List.length_range]
    exact h.2.2.2.2
  · trivial

/-! ### what an expression costs -/
section
variable (cf : Nat → Nat)
def bX : X → Bool
  | .rng1 _ => true | .rng2 _ _ => true | .cap _ => true | _ => false
def cX : X → Nat
  | .bin _ a b => cX a + cX b
  | .neg a => cX a
  | .cmp _ a b => cX a + cX b
  | .chain _ _ a b c => cX a + (cX b + cX c)
  | .chain3 _ _ _ a b c d => cX a + (cX b + (cX c + cX d))
  | .lrng a b => cX a + cX b
  | .and a b => cX a + cX b
  | .or a b => cX a + cX b
  | .not a => cX a
  | .ite t a b => cX t + (cX a + cX b)
  | .tup as => cX as
  | .lst as => cX as
  | .cons a as => cX a + cX as
  | .idx a i => cX a + cX i
  | .slc a l h => cX a + (cX l + cX h)
  | .part a => cX a
  | .call f as => cX as + cf f
  | .callK f _ as => cX as + cf f
  | .op1 _ a => cX a
  | .callM f _ _ as bs => cX as + (cX bs + cf f)
  | .blt _ as => cX as
  | .isk _ a => cX a
  | .caught _ a => cX a
  | .isx _ _ a => cX a
  | .must a => cX a
  | .errs _ _ _ ks st => cX st + cX ks
  | .comp _ it cond elt _ => cX it + lim * (cX cond + cX elt)
  | .cap a => cX a
  | .rng1 a => cX a
  | .rng2 a b => cX a + cX b
  | .zip a b => cX a + cX b
  | .enum a => cX a
  | _ => 0
def okX : X → Bool
  | .bin _ a b => okX a && okX b
  | .neg a => okX a
  | .cmp _ a b => okX a && okX b
  | .chain _ _ a b c => okX a && (okX b && okX c)
  | .chain3 _ _ _ a b c d => okX a && (okX b && (okX c && okX d))
  | .lrng a b => okX a && okX b
  | .and a b => okX a && okX b
  | .or a b => okX a && okX b
  | .not a => okX a
  | .ite t a b => okX t && (okX a && okX b)
  | .tup as => okX as
  | .lst as => okX as
  | .cons a as => okX a && okX as
  | .idx a i => okX a && okX i
  | .slc a l h => okX a && (okX l && okX h)
  | .part a => okX a
  | .call _ as => okX as
  | .callK _ _ as => okX as
  | .op1 _ a => okX a
  | .callM _ _ _ as bs => okX as && okX bs
  | .blt _ as => okX as
  | .isk _ a => okX a
  | .caught _ a => okX a
  | .isx _ _ a => okX a
  | .must a => okX a
  | .errs _ _ _ ks st => okX st && okX ks
  | .comp _ it cond elt _ => okX it && (okX cond && okX elt) && (bX it || (cX cf cond + cX cf elt == 0))
  | .cap a => okX a
  | .rng1 a => okX a
  | .rng2 a b => okX a && okX b
  | .zip a b => okX a && okX b
  | .enum a => okX a
  | _ => true
end
section
variable {cf : Nat → Nat} {call : Nat → List D → T D}
structure LeX (s : Sx) (n : Nat) : Prop where
  E : ∀ r, le (s.E r) n
  B : ∀ r, le (s.B r) n
  A : ∀ r, le (s.A r) n
  R : ∀ r, le (s.R r) n
  O : ∀ r, le (s.O r) n
  I : ∀ r, le (s.I r) n
theorem lex_ofE {e : Env → T D} {n : Nat} (h : ∀ r, le (e r) n) : LeX (ofE e) n :=
  ⟨h, fun r => le_bind0 (h r) fun _ => le_toB, fun _ => le_bad, fun _ => le_bad, fun _ => le_bad, fun r => le_bind0 (h r) fun _ => le_ofO⟩
theorem le_compL {f : D → T (Option D)} {n : Nat} (h : ∀ d, le (f d) n) : ∀ ds : List D, le (compL f ds) (ds.length * n)
  | [] => le_ret
  | d :: ds => by
    unfold compL
    rw [List.length_cons, Nat.succ_mul, Nat.add_comm]
    exact le_bind (h d) fun o => le_bind0 (le_compL h ds) fun _ => le_ret
theorem ans_bX {it : X} (h : bX it = true) (r : Env) : ((evs call it).I r).Ans fun ds => ds.length ≤ lim := by
  cases it <;> first
    | exact (Bool.false_ne_true h).elim
    | skip
  · refine ans_bind fun ds => ?_
    split
    · assumption
    · trivial
  · refine ans_bind fun x => ?_
    unfold rng1T
    split
    · exact ans_rngI
    · trivial
  · refine ans_bind fun x => ans_bind fun y => ?_
    unfold rng2T
    split
    · exact ans_rngI
    · trivial
theorem leX (hc : ∀ f ds, le (call f ds) (cf f)) : ∀ x : X, okX cf x = true → LeX (evs call x) (cX cf x) := by
  intro x
  induction x with
  | non => exact fun _ => lex_ofE fun _ => le_ret
  | bl b => exact fun _ => lex_ofE fun _ => le_ret
  | int i => exact fun _ => lex_ofE fun _ => le_ret
  | str x => exact fun _ => lex_ofE fun _ => le_ret
  | var i => exact fun _ => lex_ofE fun _ => le_getV
  | con x i => exact fun _ => lex_ofE fun _ => le_ret
  | bin op a b iha ihb =>
    intro h
    simp only [okX, Bool.and_eq_true] at h
    exact lex_ofE fun r => le_bind ((iha h.1).E r) fun _ => le_bind0 ((ihb h.2).E r) fun _ => le_bin
  | neg a ih =>
    intro h
    exact lex_ofE fun r => le_bind0 ((ih h).E r) fun x => by unfold negT; split <;> first | exact le_ret | exact le_bad
  | cmp op a b iha ihb =>
    intro h
    simp only [okX, Bool.and_eq_true] at h
    exact lex_ofE fun r => le_bind ((iha h.1).E r) fun _ => le_bind0 ((ihb h.2).E r) fun _ => le_bind0 le_cmp fun _ => le_ret
  | chain o p a b c iha ihb ihc =>
    intro h
    simp only [okX, Bool.and_eq_true] at h
    refine lex_ofE fun r => le_bind ((iha h.1).E r) fun x => le_bind ((ihb h.2.1).E r) fun y => ?_
    refine le_mono (n := 0 + cX cf c) (le_bind le_cmp fun k => ?_) (by omega)
    split
    · exact le_bind0 ((ihc h.2.2).E r) fun z => le_bind0 le_cmp fun _ => le_ret
    · exact le_ret
  | chain3 o p q a b c d iha ihb ihc ihd =>
    intro h
    simp only [okX, Bool.and_eq_true] at h
    refine lex_ofE fun r => le_bind ((iha h.1).E r) fun x => le_bind ((ihb h.2.1).E r) fun y => ?_
    refine le_mono (n := 0 + (cX cf c + cX cf d)) (le_bind le_cmp fun k => ?_) (by omega)
    split
    · refine le_bind ((ihc h.2.2.1).E r) fun z => ?_
      refine le_mono (n := 0 + cX cf d) (le_bind le_cmp fun k => ?_) (by omega)
      split
      · exact le_bind0 ((ihd h.2.2.2).E r) fun u => le_bind0 le_cmp fun _ => le_ret
      · exact le_ret
    · exact le_ret
  | lrng a b iha ihb =>
    intro h
    simp only [okX, Bool.and_eq_true] at h
    exact lex_ofE fun r => le_bind ((iha h.1).E r) fun x => le_bind0 ((ihb h.2).E r) fun y => le_bind0 (by unfold rng2T; split <;> first | (unfold rngI; split <;> first | exact le_ret | exact le_bad) | exact le_bad) fun _ => le_ret
  | and a b iha ihb =>
    intro h
    simp only [okX, Bool.and_eq_true] at h
    refine ⟨fun r => le_bind ((iha h.1).E r) fun x => ?_, fun r => le_bind ((iha h.1).B r) fun k => ?_, fun _ => le_bad, fun _ => le_bad, fun _ => le_bad, fun _ => le_bad⟩
    · unfold andT
      split <;> first | exact (ihb h.2).E r | exact le_ret | exact le_bad
    · split <;> first | exact (ihb h.2).B r | exact le_ret
  | or a b iha ihb =>
    intro h
    simp only [okX, Bool.and_eq_true] at h
    refine ⟨fun r => le_bind ((iha h.1).E r) fun x => ?_, fun r => le_bind ((iha h.1).B r) fun k => ?_, fun _ => le_bad, fun _ => le_bad, fun _ => le_bad, fun _ => le_bad⟩
    · unfold orT
      split <;> first | exact (ihb h.2).E r | exact le_ret | exact le_bad
    · split <;> first | exact (ihb h.2).B r | exact le_ret
  | not a ih =>
    intro h
    refine ⟨fun r => le_bind0 ((ih h).E r) fun x => ?_, fun r => le_bind0 ((ih h).B r) fun _ => le_ret, fun _ => le_bad, fun _ => le_bad, fun _ => le_bad, fun _ => le_bad⟩
    unfold notT
    split <;> first | exact le_ret | exact le_bad
  | ite t a b iht iha ihb =>
    intro h
    simp only [okX, Bool.and_eq_true] at h
    refine lex_ofE fun r => le_bind ((iht h.1).B r) fun k => ?_
    split
    · exact le_mono ((iha h.2.1).E r) (by omega)
    · exact le_mono ((ihb h.2.2).E r) (by omega)
  | tup as ih =>
    intro h
    exact lex_ofE fun r => le_bind0 ((ih h).A r) fun ds => by unfold lenT; split <;> first | exact le_ret | exact le_bad
  | lst as ih =>
    intro h
    exact lex_ofE fun r => le_bind0 ((ih h).A r) fun ds => by unfold lenT; split <;> first | exact le_ret | exact le_bad
  | nil => exact fun _ => ⟨fun _ => le_bad, fun _ => le_bad, fun _ => le_ret, fun _ => le_ret, fun _ => le_bad, fun _ => le_bad⟩
  | cons a as iha ihs =>
    intro h
    simp only [okX, Bool.and_eq_true] at h
    exact ⟨fun _ => le_bad, fun _ => le_bad, fun r => le_bind ((iha h.1).E r) fun x => le_mono (n := 0 + cX cf as) (le_bind le_fz fun _ => le_bind0 ((ihs h.2).A r) fun _ => le_ret) (by omega), fun r => le_bind ((iha h.1).E r) fun x => le_bind0 ((ihs h.2).R r) fun _ => le_ret, fun _ => le_bad, fun _ => le_bad⟩
  | idx a i iha ihi =>
    intro h
    simp only [okX, Bool.and_eq_true] at h
    exact lex_ofE fun r => le_bind ((iha h.1).E r) fun _ => le_bind0 ((ihi h.2).E r) fun _ => le_idx
  | slc a l h iha ihl ihh =>
    intro hh
    simp only [okX, Bool.and_eq_true] at hh
    exact lex_ofE fun r => le_bind ((iha hh.1).E r) fun _ => le_bind ((ihl hh.2.1).O r) fun _ => le_bind0 ((ihh hh.2.2).O r) fun _ => le_slc
  | part a ih =>
    intro h
    exact ⟨fun _ => le_bad, fun _ => le_bad, fun _ => le_bad, fun _ => le_bad, fun r => le_bind0 ((ih h).E r) fun x => by unfold partT; split <;> first | exact le_ret | exact le_bad, fun _ => le_bad⟩
  | nopart => exact fun _ => ⟨fun _ => le_bad, fun _ => le_bad, fun _ => le_bad, fun _ => le_bad, fun _ => le_ret, fun _ => le_bad⟩
  | call f as ih =>
    intro h
    exact lex_ofE fun r => le_bind ((ih h).A r) fun ds => hc f ds
  | callK f perm as ih =>
    intro h
    exact lex_ofE fun r => le_bind ((ih h).A r) fun ds => le_mono (n := 0 + cf f) (le_bind le_ofO fun ds => hc f ds) (by omega)
  | op0 o => exact fun _ => lex_ofE fun _ => by cases o; exact le_ret
  | op1 o a ih =>
    intro h
    exact lex_ofE fun r => le_bind0 ((ih h).E r) fun _ => le_op1
  | callM f m perm as bs iha ihb =>
    intro h
    simp only [okX, Bool.and_eq_true] at h
    exact lex_ofE fun r => le_bind ((iha h.1).A r) fun ds => le_bind ((ihb h.2).A r) fun es => le_mono (n := 0 + cf f) (le_bind le_ofO fun ds => hc f ds) (by omega)
  | blt f as ih =>
    intro h
    exact lex_ofE fun r => le_bind0 ((ih h).R r) fun _ => le_blt
  | isk f a ih =>
    intro h
    exact lex_ofE fun r => le_bind0 ((ih h).E r) fun _ => le_blt
  | caught nx a ih =>
    intro h
    exact lex_ofE fun r => le_catch ((ih h).E r)
  | isx nx k a ih =>
    intro h
    exact lex_ofE fun r => le_bind0 ((ih h).E r) fun _ => le_isx
  | must a ih =>
    intro h
    exact lex_ofE fun r => le_bind0 ((ih h).E r) fun d => by unfold mustT; split <;> first | exact le_ret | exact le_bad
  | errs i tag ss ks st ihk ihs =>
    intro h
    simp only [okX, Bool.and_eq_true] at h
    exact lex_ofE fun r => by
      split
      · exact le_bind ((ihs h.1).E r) fun d => by
          split
          · exact le_bind0 ((ihk h.2).A r) fun _ => le_ret
          · exact le_bad
      · exact le_bad
  | comp tg it cond elt own ihi ihc ihe =>
    intro h
    simp only [okX, Bool.and_eq_true, Bool.or_eq_true, beq_iff_eq] at h
    obtain ⟨⟨h1, h2, h3⟩, h4⟩ := h
    have turn : ∀ r d, le (compF tg (own.map (·.2)) (evs call cond).B (evs call elt).E r d) (cX cf cond + cX cf elt) := fun r d => by
      refine le_mono (n := 0 + (cX cf cond + cX cf elt)) (le_bind le_bindTg fun r2 => le_bind ((ihc h2).B r2) fun k => ?_) (by omega)
      split
      · exact le_bind0 ((ihe h3).E r2) fun y => le_bind0 le_fz fun _ => le_ret
      · exact le_ret
    refine lex_ofE fun r => ?_
    show le (_ >>= _) (cX cf it + lim * (cX cf cond + cX cf elt))
    rcases h4 with h4 | h4
    · refine le_bindA ((ihi h1).I r) (ans_bX h4 r) fun ds hl => ?_
      refine le_bind0 (le_noErr (le_mono (le_compL (turn r) ds) ?_)) fun _ => le_ret
      exact Nat.mul_le_mul_right _ hl
    · refine le_bind ((ihi h1).I r) fun ds => ?_
      refine le_bind0 (le_noErr (le_mono (le_compL (turn r) ds) ?_)) fun _ => le_ret
      rw [h4]
      simp
  | yes => exact fun _ => ⟨fun _ => le_bad, fun _ => le_ret, fun _ => le_bad, fun _ => le_bad, fun _ => le_bad, fun _ => le_bad⟩
  | cap a ih =>
    intro h
    refine ⟨fun _ => le_bad, fun _ => le_bad, fun _ => le_bad, fun _ => le_bad, fun _ => le_bad, fun r => le_bind0 ((ih h).I r) fun ds => ?_⟩
    split <;> first | exact le_ret | exact le_bad
  | rng1 a ih =>
    intro h
    refine ⟨fun _ => le_bad, fun _ => le_bad, fun _ => le_bad, fun _ => le_bad, fun _ => le_bad, fun r => le_bind0 ((ih h).E r) fun x => ?_⟩
    unfold rng1T
    split <;> first | exact le_rngI | exact le_bad
  | rng2 a b iha ihb =>
    intro h
    simp only [okX, Bool.and_eq_true] at h
    refine ⟨fun _ => le_bad, fun _ => le_bad, fun _ => le_bad, fun _ => le_bad, fun _ => le_bad, fun r => le_bind ((iha h.1).E r) fun x => le_bind0 ((ihb h.2).E r) fun y => ?_⟩
    unfold rng2T
    split <;> first | exact le_rngI | exact le_bad
  | zip a b iha ihb =>
    intro h
    simp only [okX, Bool.and_eq_true] at h
    exact ⟨fun _ => le_bad, fun _ => le_bad, fun _ => le_bad, fun _ => le_bad, fun _ => le_bad, fun r => le_bind ((iha h.1).E r) fun x => le_bind0 ((ihb h.2).E r) fun y => le_ofO⟩
  | enum a ih =>
    intro h
    exact ⟨fun _ => le_bad, fun _ => le_bad, fun _ => le_bad, fun _ => le_bad, fun _ => le_bad, fun r => le_bind0 ((ih h).E r) fun x => le_ofO⟩
end

/-! ### statements -/
section
variable (cf : Nat → Nat) (wh : Nat)
def cS : S → Nat
  | .cons s r => cS s + cS r
  | .asg _ e => cX cf e
  | .asgF _ e => cX cf e
  | .asgT _ e => cX cf e
  | .par _ es => cX cf es
  | .expr e => cX cf e
  | .app _ e => cX cf e
  | .sset _ ix e => cX cf e + cX cf ix
  | .iff t a b => cX cf t + (cS a + cS b)
  | .for_ _ it body => cX cf it + lim * cS body
  | .while_ t body => wh * (cX cf t + cS body)
  | .ret e => cX cf e
  | _ => 0
def okS : S → Bool
  | .cons s r => okS s && okS r
  | .asg _ e => okX cf e
  | .asgF _ e => okX cf e
  | .asgT _ e => okX cf e
  | .par _ es => okX cf es
  | .expr e => okX cf e
  | .app _ e => okX cf e
  | .sset _ ix e => okX cf e && okX cf ix
  | .iff t a b => okX cf t && (okS a && okS b)
  | .for_ _ it body => okX cf it && okS body && (bX it || (cS cf wh body == 0))
  | .while_ t body => okX cf t && okS body
  | .ret e => okX cf e
  | _ => true
end
section
variable {cf : Nat → Nat} {wh : Nat} {call : Nat → List D → T D}
theorem le_forL {set : D → Env → T Env} {body : Env → T Fl} {n : Nat} (h0 : ∀ d r, le (set d r) 0) (h : ∀ r, le (body r) n) : ∀ (ds : List D) (r : Env), le (forL set body ds r) (ds.length * n)
  | [], r => le_ret
  | d :: ds, r => by
    unfold forL
    rw [List.length_cons, Nat.succ_mul, Nat.add_comm]
    refine le_mono (n := 0 + (n + ds.length * n)) (le_bind (h0 d r) fun r1 => le_bind (h r1) fun fl => ?_) (by omega)
    cases fl with
    | nx r2 => exact le_forL h0 h ds r2
    | ct r2 => exact le_forL h0 h ds r2
    | bk r2 => exact le_ret
    | rt v => exact le_ret
theorem le_whileL {test : Env → T Bool} {body : Env → T Fl} {n m : Nat} (h0 : ∀ r, le (test r) n) (h : ∀ r, le (body r) m) : ∀ (k : Nat) (r : Env), le (whileL test body k r) (k * (n + m))
  | 0, r => le_bad
  | k + 1, r => by
    unfold whileL
    rw [Nat.succ_mul, Nat.add_comm]
    refine le_mono (n := n + (m + k * (n + m))) (le_bind (h0 r) fun c => ?_) (by omega)
    split
    · refine le_bind (h r) fun fl => ?_
      cases fl with
      | nx r2 => exact le_whileL h0 h k r2
      | ct r2 => exact le_whileL h0 h k r2
      | bk r2 => exact le_ret
      | rt v => exact le_ret
    · exact le_ret
theorem leS (hc : ∀ f ds, le (call f ds) (cf f)) : ∀ s : S, okS cf wh s = true → ∀ r, le (ex call wh s r) (cS cf wh s) := by
  intro s
  induction s with
  | nil => exact fun _ _ => le_ret
  | cons s t ihs iht =>
    intro h r
    simp only [okS, Bool.and_eq_true] at h
    refine le_bind (ihs h.1 r) fun fl => ?_
    cases fl with
    | nx r2 => exact iht h.2 r2
    | _ => exact le_ret
  | asg i e => exact fun h r => le_bind0 ((leX hc e h).E r) fun d => le_bind0 le_ofO fun _ => le_ret
  | asgF i e => exact fun h r => le_bind0 ((leX hc e h).E r) fun d => le_bind0 le_fz fun _ => le_ret
  | asgT is e =>
    intro h r
    refine le_bind0 ((leX hc e h).E r) fun d => ?_
    cases d <;> first
      | exact le_bind0 le_ofO fun _ => le_ret
      | exact le_bad
  | par is es => exact fun h r => le_bind0 ((leX hc es h).R r) fun ds => le_bind0 le_ofO fun _ => le_ret
  | expr e => exact fun h r => le_bind0 ((leX hc e h).E r) fun d => le_ret
  | app i e =>
    intro h r
    show le (match r[i]? with | some (.own xs) => _ | _ => .bad) _
    split
    · split
      · exact le_bind0 ((leX hc e h).E r) fun d => le_bind0 le_fz fun _ => le_ret
      · exact le_bad
    · exact le_bad
  | sset i ix e =>
    intro h r
    simp only [okS, Bool.and_eq_true] at h
    show le (match r[i]? with | some (.own xs) => _ | _ => .bad) _
    split
    · refine le_bind ((leX hc e h.1).E r) fun d => le_mono (n := 0 + cX cf ix) (le_bind le_fz fun d => le_bind0 ((leX hc ix h.2).E r) fun k => ?_) (by omega)
      cases k <;> first
        | exact le_bad
        | skip
      simp only
      split <;> first | exact le_ret | exact le_bad
    · exact le_bad
  | iff t a b iha ihb =>
    intro h r
    simp only [okS, Bool.and_eq_true] at h
    refine le_bind ((leX hc t h.1).B r) fun k => ?_
    split
    · exact le_mono (iha h.2.1 r) (by omega)
    · exact le_mono (ihb h.2.2 r) (by omega)
  | for_ tg it body ih =>
    intro h r
    simp only [okS, Bool.and_eq_true, Bool.or_eq_true, beq_iff_eq] at h
    obtain ⟨⟨h1, h2⟩, h4⟩ := h
    rcases h4 with h4 | h4
    · refine le_bindA ((leX hc it h1).I r) (ans_bX h4 r) fun ds hl => ?_
      exact le_mono (le_forL (fun d r => le_bindTg) (ih h2) ds r) (Nat.mul_le_mul_right _ hl)
    · refine le_bind ((leX hc it h1).I r) fun ds => ?_
      refine le_mono (le_forL (fun d r => le_bindTg) (ih h2) ds r) ?_
      rw [h4]
      simp
  | while_ t body ih =>
    intro h r
    simp only [okS, Bool.and_eq_true] at h
    exact le_whileL (leX hc t h.1).B (ih h.2) wh r
  | ret e =>
    intro h r
    cases e <;> first
      | (refine le_bind0 ((leX hc _ h).E r) fun d => ?_; split <;> first | exact le_ret | exact le_bad)
      | skip
    rename_i i
    show le (match r[i]? with | some (.own xs) => _ | some (.val d) => _ | _ => .bad) _
    split <;> first | exact le_ret | exact le_bad
  | retN => exact fun _ _ => le_ret
  | raise c => exact fun _ _ => le_err
  | frz i =>
    intro h r
    show le (match r[i]? with | some (.own xs) => _ | some (.val d) => _ | _ => .bad) _
    split <;> first | exact le_ret | exact le_bad
  | brk => exact fun _ _ => le_ret
  | cont => exact fun _ _ => le_ret
  | pass => exact fun _ _ => le_ret
  | lams i tag => exact fun _ _ => le_ret
end
/-! ### a program's costs, depth by depth -/
def look (t : List (Nat × Nat)) (k : Nat) : Nat := (t.lookup k).getD 0
def cT (P : Tab) (wh : Nat) : Nat → List (Nat × Nat)
  | 0 => []
  | n + 1 => let t := cT P wh n; (0, 1) :: P.map fun d => (d.1, cS (look t) wh d.2.body)
def okT (P : Tab) (wh : Nat) : Nat → Bool
  | 0 => true
  | n + 1 => okT P wh n && P.all fun d => okS (look (cT P wh n)) wh d.2.body
theorem lookup_map {P : Tab} {f : Df → Nat} {k : Nat} : (P.map fun d => (d.1, f d.2)).lookup k = (P.lookup k).map f := by
  induction P with
  | nil => rfl
  | cons p P ih =>
    obtain ⟨j, d⟩ := p
    rw [List.map_cons, List.lookup_cons, List.lookup_cons]
    cases k == j with
    | true => rfl
    | false => exact ih
theorem lookup_mem {P : Tab} {k : Nat} {d : Df} (h : P.lookup k = some d) : ∃ j, (j, d) ∈ P := by
  induction P with
  | nil => cases h
  | cons p P ih =>
    obtain ⟨j, e⟩ := p
    rw [List.lookup_cons] at h
    cases q : k == j with
    | true => rw [q] at h; cases h; exact ⟨j, List.mem_cons_self⟩
    | false => rw [q] at h; obtain ⟨j', h'⟩ := ih h; exact ⟨j', List.mem_cons_of_mem _ h'⟩
theorem le_drawP {ds : List D} : le (drawP ds) 1 := by
  unfold drawP
  split
  · split
    · exact fun d => le_ret
    · exact le_bad
  · exact le_bad
theorem leF {P : Tab} {wh : Nat} : ∀ n, okT P wh n = true → ∀ k ds, le (callF P wh n k ds) (look (cT P wh n) k)
  | 0, _, _, _ => le_bad
  | n + 1, h, 0, ds => by
    have e : look (cT P wh (n + 1)) 0 = 1 := rfl
    rw [e]
    show le (if n = 0 then .bad else drawP ds) 1
    split
    · exact le_bad
    · exact le_drawP
  | n + 1, h, k + 1, ds => by
    rw [show okT P wh (n + 1) = (okT P wh n && P.all fun d => okS (look (cT P wh n)) wh d.2.body) from rfl, Bool.and_eq_true] at h
    have e : look (cT P wh (n + 1)) (k + 1) = ((P.lookup (k + 1)).map fun d => cS (look (cT P wh n)) wh d.body).getD 0 := by
      show ((List.lookup (k + 1) ((0, 1) :: P.map fun d => (d.1, cS (look (cT P wh n)) wh d.2.body))).getD 0) = _
      rw [List.lookup_cons, show (k + 1 == 0) = false from rfl]
      exact congrArg (Option.getD · 0) (lookup_map (f := fun d => cS (look (cT P wh n)) wh d.body))
    rw [e]
    show le (match P.lookup (k + 1) with | some d => runD (callF P wh n) wh d ds | none => .bad) _
    cases q : P.lookup (k + 1) with
    | none => exact le_bad
    | some d =>
      obtain ⟨j, hj⟩ := lookup_mem q
      have ho := List.all_eq_true.mp h.2 _ hj
      show le (runD (callF P wh n) wh d ds) (cS (look (cT P wh n)) wh d.body)
      unfold runD
      split
      · refine le_bind0 (leS (fun f ds => leF n h.1 f ds) d.body ho _) fun fl => ?_
        cases fl <;> first | exact le_ret | exact le_bad
      · exact le_bad
end PV
end
section
set_option maxHeartbeats 400000
/-! PvE: reckoning, step by step. -/
namespace PV
open PySem
section
variable {call : Nat → List D → T D} {wh : Nat} {r : Env}
theorem e_non : (evs call .non).E r = .ret .non := rfl
theorem e_bl {b : Bool} : (evs call (.bl b)).E r = .ret (.bl b) := rfl
theorem e_int {i : Int} : (evs call (.int i)).E r = .ret (.int i) := rfl
theorem e_str {x : Str} : (evs call (.str x)).E r = .ret (.str x) := rfl
theorem e_var {i : Nat} : (evs call (.var i)).E r = getV r i := rfl
theorem e_con {x : Str} {i : Int} : (evs call (.con x i)).E r = .ret (.int i) := rfl
theorem e_bin {op : BOp} {a b : X} : (evs call (.bin op a b)).E r = (evs call a).E r >>= fun x => (evs call b).E r >>= fun y => binT op x y := rfl
theorem e_neg {a : X} : (evs call (.neg a)).E r = (evs call a).E r >>= negT := rfl
theorem e_cmp {op : COp} {a b : X} : (evs call (.cmp op a b)).E r = (evs call a).E r >>= fun x => (evs call b).E r >>= fun y => cmpT op x y >>= fun c => .ret (.bl c) := rfl
theorem e_chain {o p : COp} {a b c : X} : (evs call (.chain o p a b c)).E r = (evs call a).E r >>= fun x => (evs call b).E r >>= fun y => cmpT o x y >>= fun k => if k = true then (evs call c).E r >>= fun z => cmpT p y z >>= fun k => .ret (.bl k) else .ret (.bl false) := rfl
theorem e_chain3 {o p q : COp} {a b c d : X} : (evs call (.chain3 o p q a b c d)).E r = (evs call a).E r >>= fun x => (evs call b).E r >>= fun y => cmpT o x y >>= fun k => if k = true then (evs call c).E r >>= fun z => cmpT p y z >>= fun k => if k = true then (evs call d).E r >>= fun u => cmpT q z u >>= fun k => .ret (.bl k) else .ret (.bl false) else .ret (.bl false) := rfl
theorem e_lrng {a b : X} : (evs call (.lrng a b)).E r = (evs call a).E r >>= fun x => (evs call b).E r >>= fun y => rng2T x y >>= fun ds => .ret (.new ds) := rfl
theorem e_and {a b : X} : (evs call (.and a b)).E r = (evs call a).E r >>= fun x => andT x ((evs call b).E r) := rfl
theorem e_or {a b : X} : (evs call (.or a b)).E r = (evs call a).E r >>= fun x => orT x ((evs call b).E r) := rfl
theorem e_not {a : X} : (evs call (.not a)).E r = (evs call a).E r >>= notT := rfl
theorem e_ite {t a b : X} : (evs call (.ite t a b)).E r = (evs call t).B r >>= fun k => if k = true then (evs call a).E r else (evs call b).E r := rfl
theorem e_tup {as : X} : (evs call (.tup as)).E r = (evs call as).A r >>= fun ds => lenT ds (.tup ds) := rfl
theorem e_lst {as : X} : (evs call (.lst as)).E r = (evs call as).A r >>= fun ds => lenT ds (.new ds) := rfl
theorem e_idx {a i : X} : (evs call (.idx a i)).E r = (evs call a).E r >>= fun x => (evs call i).E r >>= fun y => idxT x y := rfl
theorem e_slc {a l h : X} : (evs call (.slc a l h)).E r = (evs call a).E r >>= fun x => (evs call l).O r >>= fun l => (evs call h).O r >>= fun h => slcT x l h := rfl
theorem e_call {f : Nat} {as : X} : (evs call (.call f as)).E r = (evs call as).A r >>= fun ds => call f ds := rfl
theorem e_callK {f : Nat} {pm : List Nat} {as : X} : (evs call (.callK f pm as)).E r = (evs call as).A r >>= fun ds => ofO (permD pm ds) >>= fun ds => call f ds := rfl
theorem e_blt {f : Blt} {as : X} : (evs call (.blt f as)).E r = (evs call as).R r >>= fun ds => bltT f ds := rfl
theorem e_isk {f : Blt} {a : X} : (evs call (.isk f a)).E r = (evs call a).E r >>= fun x => bltT f [x] := rfl
theorem e_caught {nx : Nat} {a : X} : (evs call (.caught nx a)).E r = catchT nx ((evs call a).E r) := rfl
theorem e_isx {nx k : Nat} {a : X} : (evs call (.isx nx k a)).E r = (evs call a).E r >>= isxT nx k := rfl
theorem e_must {a : X} : (evs call (.must a)).E r = (evs call a).E r >>= mustT := rfl
theorem e_errs {i tag : Nat} {ss : List Str} {ks st : X} : (evs call (.errs i tag ss ks st)).E r = if fnsAt r i tag = true then (evs call st).E r >>= fun sd => if isStrs ss sd = true then (evs call ks).A r >>= fun _ => .ret (.bl true) else .bad else .bad := rfl
theorem q_must : mustT (.bl true) = .ret (.bl true) := rfl
theorem e_comp {tg : Tg} {it cond elt : X} {own : List (Str × Nat)} : (evs call (.comp tg it cond elt own)).E r = (evs call it).I r >>= fun ds => noErr (compL (compF tg (own.map (·.2)) (evs call cond).B (evs call elt).E r) ds) >>= fun ys => .ret (.new ys) := rfl
theorem e_op0 {o : O0} : (evs call (.op0 o)).E r = op0T o := rfl
theorem e_op1 {o : O1} {a : X} : (evs call (.op1 o a)).E r = (evs call a).E r >>= op1T o := rfl
theorem e_callM {f m : Nat} {pm : List Nat} {as bs : X} : (evs call (.callM f m pm as bs)).E r = (evs call as).A r >>= fun ds => (evs call bs).A r >>= fun es => ofO (permM m pm ds es) >>= fun ds => call f ds := rfl
-- tests
theorem b_op1 {o : O1} {a : X} : (evs call (.op1 o a)).B r = ((evs call a).E r >>= op1T o) >>= toB := rfl
theorem b_callM {f m : Nat} {pm : List Nat} {as bs : X} : (evs call (.callM f m pm as bs)).B r = ((evs call as).A r >>= fun ds => (evs call bs).A r >>= fun es => ofO (permM m pm ds es) >>= fun ds => call f ds) >>= toB := rfl
theorem i_callK {f : Nat} {pm : List Nat} {as : X} : (evs call (.callK f pm as)).I r = ((evs call as).A r >>= fun ds => ofO (permD pm ds) >>= fun ds => call f ds) >>= fun v => ofO (frozen v) := rfl
theorem i_op1 {o : O1} {a : X} : (evs call (.op1 o a)).I r = ((evs call a).E r >>= op1T o) >>= fun v => ofO (frozen v) := rfl
theorem o_emp : op0T .emp = .ret .emp := rfl
theorem o_revT {xs : List D} : op1T .rev (.tup xs) = .ret (.tup xs.reverse) := rfl
theorem b_var {i : Nat} : (evs call (.var i)).B r = getV r i >>= toB := rfl
theorem b_cmp {op : COp} {a b : X} : (evs call (.cmp op a b)).B r = ((evs call a).E r >>= fun x => (evs call b).E r >>= fun y => cmpT op x y >>= fun c => .ret (.bl c)) >>= toB := rfl
theorem b_chain {o p : COp} {a b c : X} : (evs call (.chain o p a b c)).B r = ((evs call a).E r >>= fun x => (evs call b).E r >>= fun y => cmpT o x y >>= fun k => if k = true then (evs call c).E r >>= fun z => cmpT p y z >>= fun k => .ret (.bl k) else .ret (.bl false)) >>= toB := rfl
theorem b_chain3 {o p q : COp} {a b c d : X} : (evs call (.chain3 o p q a b c d)).B r = ((evs call a).E r >>= fun x => (evs call b).E r >>= fun y => cmpT o x y >>= fun k => if k = true then (evs call c).E r >>= fun z => cmpT p y z >>= fun k => if k = true then (evs call d).E r >>= fun u => cmpT q z u >>= fun k => .ret (.bl k) else .ret (.bl false) else .ret (.bl false)) >>= toB := rfl
theorem b_and {a b : X} : (evs call (.and a b)).B r = (evs call a).B r >>= fun k => if k = true then (evs call b).B r else .ret false := rfl
theorem b_or {a b : X} : (evs call (.or a b)).B r = (evs call a).B r >>= fun k => if k = true then .ret true else (evs call b).B r := rfl
theorem b_not {a : X} : (evs call (.not a)).B r = (evs call a).B r >>= fun k => .ret (!k) := rfl
theorem b_yes : (evs call .yes).B r = .ret true := rfl
theorem b_call {f : Nat} {as : X} : (evs call (.call f as)).B r = ((evs call as).A r >>= fun ds => call f ds) >>= toB := rfl
theorem b_callK {f : Nat} {pm : List Nat} {as : X} : (evs call (.callK f pm as)).B r = ((evs call as).A r >>= fun ds => ofO (permD pm ds) >>= fun ds => call f ds) >>= toB := rfl
theorem b_blt {f : Blt} {as : X} : (evs call (.blt f as)).B r = ((evs call as).R r >>= fun ds => bltT f ds) >>= toB := rfl
theorem b_isx {nx k : Nat} {a : X} : (evs call (.isx nx k a)).B r = ((evs call a).E r >>= isxT nx k) >>= toB := rfl
theorem b_errs {i tag : Nat} {ss : List Str} {ks st : X} : (evs call (.errs i tag ss ks st)).B r = (if fnsAt r i tag = true then (evs call st).E r >>= fun sd => if isStrs ss sd = true then (evs call ks).A r >>= fun _ => .ret (.bl true) else .bad else .bad) >>= toB := rfl
theorem b_isk {f : Blt} {a : X} : (evs call (.isk f a)).B r = ((evs call a).E r >>= fun x => bltT f [x]) >>= toB := rfl
-- arguments
theorem a_nil : (evs call .nil).A r = .ret [] := rfl
theorem a_cons {a as : X} : (evs call (.cons a as)).A r = (evs call a).E r >>= fun x => fz x >>= fun x => (evs call as).A r >>= fun xs => .ret (x :: xs) := rfl
theorem r_nil : (evs call .nil).R r = .ret [] := rfl
theorem r_cons {a as : X} : (evs call (.cons a as)).R r = (evs call a).E r >>= fun x => (evs call as).R r >>= fun xs => .ret (x :: xs) := rfl
theorem o_nopart : (evs call .nopart).O r = .ret none := rfl
theorem o_part {a : X} : (evs call (.part a)).O r = (evs call a).E r >>= partT := rfl
-- what is walked
theorem i_rng1 {a : X} : (evs call (.rng1 a)).I r = (evs call a).E r >>= rng1T := rfl
theorem i_rng2 {a b : X} : (evs call (.rng2 a b)).I r = (evs call a).E r >>= fun x => (evs call b).E r >>= fun y => rng2T x y := rfl
theorem i_zip {a b : X} : (evs call (.zip a b)).I r = (evs call a).E r >>= fun x => (evs call b).E r >>= fun y => ofO (zipD x y) := rfl
theorem i_enum {a : X} : (evs call (.enum a)).I r = (evs call a).E r >>= fun x => ofO ((frozenL x).map (enumD 0)) := rfl
theorem i_cap {a : X} : (evs call (.cap a)).I r = (evs call a).I r >>= fun ds => if ds.length ≤ lim then .ret ds else .bad := rfl
theorem i_var {i : Nat} : (evs call (.var i)).I r = getV r i >>= fun v => ofO (frozen v) := rfl
theorem i_blt {f : Blt} {as : X} : (evs call (.blt f as)).I r = ((evs call as).R r >>= fun ds => bltT f ds) >>= fun v => ofO (frozen v) := rfl
theorem i_call {f : Nat} {as : X} : (evs call (.call f as)).I r = ((evs call as).A r >>= fun ds => call f ds) >>= fun v => ofO (frozen v) := rfl
theorem i_tup {as : X} : (evs call (.tup as)).I r = ((evs call as).A r >>= fun ds => lenT ds (.tup ds)) >>= fun v => ofO (frozen v) := rfl
theorem i_lst {as : X} : (evs call (.lst as)).I r = ((evs call as).A r >>= fun ds => lenT ds (.new ds)) >>= fun v => ofO (frozen v) := rfl
theorem i_idx {a i : X} : (evs call (.idx a i)).I r = ((evs call a).E r >>= fun x => (evs call i).E r >>= fun y => idxT x y) >>= fun v => ofO (frozen v) := rfl
theorem i_slc {a l h : X} : (evs call (.slc a l h)).I r = ((evs call a).E r >>= fun x => (evs call l).O r >>= fun l => (evs call h).O r >>= fun h => slcT x l h) >>= fun v => ofO (frozen v) := rfl
-- operators
theorem q_add {i j : Int} : binT .add (.int i) (.int j) = .ret (.int (i + j)) := rfl
theorem q_sub {i j : Int} : binT .sub (.int i) (.int j) = .ret (.int (i - j)) := rfl
theorem q_mod {i j : Int} (h : 0 < j) : binT .mod (.int i) (.int j) = .ret (.int (i % j)) := if_pos h
theorem q_fdiv {i j : Int} (h : 0 < j) (h2 : j < 2 ^ 64) : binT .fdiv (.int i) (.int j) = .ret (.int (i / j)) := if_pos ⟨h, Int.lt_of_lt_of_le h2 (by decide +kernel)⟩
theorem q_mulL {i j : Int} (h : -(2 ^ 64) < i) (h2 : i < 2 ^ 64) : binT .mul (.int i) (.int j) = .ret (.int (i * j)) := by
  show (if mulOk i j = true then T.ret (D.int (i * j)) else T.bad) = _
  rw [if_pos]
  unfold mulOk
  rw [decide_eq_true ⟨h, h2⟩]
  rfl
theorem q_mulR {i j : Int} (h : -(2 ^ 64) < j) (h2 : j < 2 ^ 64) : binT .mul (.int i) (.int j) = .ret (.int (i * j)) := by
  show (if mulOk i j = true then T.ret (D.int (i * j)) else T.bad) = _
  rw [if_pos]
  unfold mulOk
  rw [decide_eq_true (p := -(2 ^ 64) < j ∧ j < 2 ^ 64) ⟨h, h2⟩, Bool.or_true]
theorem q_neg {i : Int} : negT (.int i) = .ret (.int (-i)) := rfl
theorem q_lt {i j : Int} : cmpT .lt (.int i) (.int j) = .ret (decide (i < j)) := rfl
theorem q_le {i j : Int} : cmpT .le (.int i) (.int j) = .ret (decide (i ≤ j)) := rfl
theorem q_gt {i j : Int} : cmpT .gt (.int i) (.int j) = .ret (decide (j < i)) := rfl
theorem q_ge {i j : Int} : cmpT .ge (.int i) (.int j) = .ret (decide (j ≤ i)) := rfl
theorem q_eqI {i j : Int} : cmpT .eq (.int i) (.int j) = .ret (decide (i = j)) := by
  show deq (.int i) (.int j) = _
  unfold deq
  simp [okPy, D.toPy, SeqAt.shaped, PyData.canLay0, PyData.depth, PyData.eqv]
  by_cases h : i = j <;> simp [h]
theorem q_neI {i j : Int} : cmpT .ne (.int i) (.int j) = .ret (!decide (i = j)) := by
  show (deq (.int i) (.int j) >>= fun c => .ret (!c)) = _
  rw [show deq (.int i) (.int j) = _ from q_eqI]
  rfl
theorem q_isNN : cmpT .is .non .non = .ret true := rfl
theorem q_isNT {xs : List D} : cmpT .is (.tup xs) .non = .ret false := rfl
theorem q_isNI {i : Int} : cmpT .is (.int i) .non = .ret false := rfl
theorem q_isNL {xs : List D} : cmpT .is (.lst xs) .non = .ret false := rfl
theorem q_isBB {j k : Bool} : cmpT .is (.bl j) (.bl k) = .ret (decide (j = k)) := rfl
theorem q_isNB {k : Bool} : cmpT .is (.bl k) .non = .ret false := rfl
theorem q_isNS {x : Str} : cmpT .is (.str x) .non = .ret false := rfl
theorem q_isnNN : cmpT .isn .non .non = .ret false := rfl
theorem q_isnNT {xs : List D} : cmpT .isn (.tup xs) .non = .ret true := rfl
theorem q_isnNI {i : Int} : cmpT .isn (.int i) .non = .ret true := rfl
theorem q_isnNL {xs : List D} : cmpT .isn (.lst xs) .non = .ret true := rfl
theorem q_andT {t : T D} : andT (.bl true) t = t := rfl
theorem q_andF {t : T D} : andT (.bl false) t = .ret (.bl false) := rfl
theorem q_orT {t : T D} : orT (.bl true) t = .ret (.bl true) := rfl
theorem q_orF {t : T D} : orT (.bl false) t = t := rfl
theorem q_not {b : Bool} : notT (.bl b) = .ret (.bl (!b)) := rfl
theorem q_toB {b : Bool} : toB (.bl b) = .ret b := rfl
theorem q_part {i : Int} : partT (.int i) = .ret (some i) := rfl
theorem q_fzI {i : Int} : fz (.int i) = .ret (.int i) := rfl
theorem q_fzB {b : Bool} : fz (.bl b) = .ret (.bl b) := rfl
theorem q_fzS {x : Str} : fz (.str x) = .ret (.str x) := rfl
theorem q_fzN : fz .non = .ret .non := rfl
theorem q_fzT {xs : List D} : fz (.tup xs) = .ret (.tup xs) := rfl
theorem q_fzL {xs : List D} : fz (.lst xs) = .ret (.lst xs) := rfl
theorem q_fzW {xs : List D} : fz (.new xs) = .ret (.lst xs) := rfl
theorem q_fzSt : fz .sta = .ret .sta := rfl
theorem q_fzSc {ns : List Int} : fz (.scr ns) = .ret (.scr ns) := rfl
theorem ite_bind {a b : Type} {c : Prop} [Decidable c] {x y : T a} {f : a → T b} : ((if c then x else y) >>= f) = if c then x >>= f else y >>= f := by
  by_cases h : c
  · rw [if_pos h, if_pos h]
  · rw [if_neg h, if_neg h]
theorem dite_true {a : Type} {c : Prop} [Decidable c] {x y : a} : (if decide c = true then x else y) = if c then x else y := by
  by_cases h : c
  · rw [if_pos h, if_pos (decide_eq_true h)]
  · rw [if_neg h, if_neg (by simp [h])]
theorem rng_ok {i j : Int} (h : -(2 ^ 62) ≤ i ∧ i < 2 ^ 62 ∧ -(2 ^ 62) ≤ j ∧ j < 2 ^ 62 ∧ (j - i).toNat ≤ lim) : rngI i j = .ret ((List.range (j - i).toNat).map fun k => .int (i + (k : Nat))) := by
  unfold rngI
  rw [if_pos (decide_eq_true h)]
-- statements
def seqK (k : Env → T Fl) : Fl → T Fl
  | .nx r => k r
  | f => .ret f
theorem s_nil : ex call wh .nil r = .ret (.nx r) := rfl
theorem s_cons {s t : S} : ex call wh (.cons s t) r = ex call wh s r >>= seqK (ex call wh t) := by
  have q : (fun fl : Fl => match fl with | .nx r2 => ex call wh t r2 | f => T.ret f) = seqK (ex call wh t) := by
    funext fl
    cases fl <;> rfl
  rw [← q]
  rfl
theorem k_nx {k : Env → T Fl} : seqK k (.nx r) = k r := rfl
theorem k_rt {k : Env → T Fl} {d : D} : seqK k (.rt d) = .ret (.rt d) := rfl
theorem k_bk {k : Env → T Fl} : seqK k (.bk r) = .ret (.bk r) := rfl
theorem k_ct {k : Env → T Fl} : seqK k (.ct r) = .ret (.ct r) := rfl
theorem s_asg {i : Nat} {e : X} : ex call wh (.asg i e) r = (evs call e).E r >>= fun d => slOf d >>= fun s => .ret (.nx (r.set i s)) := rfl
theorem s_asgF {i : Nat} {e : X} : ex call wh (.asgF i e) r = (evs call e).E r >>= fun d => fz d >>= fun d => .ret (.nx (r.set i (.val d))) := rfl
def asgK (is : List Nat) (r : Env) : D → T Fl
  | .tup ds => ofO (setAll is ds r) >>= fun r2 => .ret (.nx r2)
  | _ => .bad
theorem s_asgT {is : List Nat} {e : X} : ex call wh (.asgT is e) r = (evs call e).E r >>= asgK is r := by
  have q : (fun d : D => match d with | .tup ds => ofO (setAll is ds r) >>= fun r2 => T.ret (Fl.nx r2) | _ => T.bad) = asgK is r := by
    funext d
    cases d <;> rfl
  rw [← q]
  rfl
theorem k_asg {is : List Nat} {ds : List D} : asgK is r (.tup ds) = ofO (setAll is ds r) >>= fun r2 => .ret (.nx r2) := rfl
theorem s_par {is : List Nat} {es : X} : ex call wh (.par is es) r = (evs call es).R r >>= fun ds => ofO (parT is ds r) >>= fun r2 => .ret (.nx r2) := rfl
theorem s_expr {e : X} : ex call wh (.expr e) r = (evs call e).E r >>= fun _ => .ret (.nx r) := rfl
theorem s_iff {t : X} {a b : S} : ex call wh (.iff t a b) r = (evs call t).B r >>= fun k => if k = true then ex call wh a r else ex call wh b r := rfl
theorem s_for {tg : Tg} {it : X} {b : S} : ex call wh (.for_ tg it b) r = (evs call it).I r >>= fun ds => forL (bindTg tg) (ex call wh b) ds r := rfl
theorem s_while {t : X} {b : S} : ex call wh (.while_ t b) r = whileL (evs call t).B (ex call wh b) wh r := rfl
theorem s_retN : ex call wh .retN r = .ret (.rt .non) := rfl
theorem s_raise {c : Nat} : ex call wh (.raise c) r = .err c := rfl
theorem s_brk : ex call wh .brk r = .ret (.bk r) := rfl
theorem s_cont : ex call wh .cont r = .ret (.ct r) := rfl
theorem s_lams {i tag : Nat} : ex call wh (.lams i tag) r = .ret (.nx (r.set i (.fns tag))) := rfl
theorem s_pass : ex call wh .pass r = .ret (.nx r) := rfl
def frzK (r : Env) (i : Nat) : Option Sl → T Fl
  | some (.own xs) => .ret (.nx (r.set i (.val (.lst xs))))
  | some (.val _) => .ret (.nx r)
  | _ => .bad
theorem s_frz {i : Nat} : ex call wh (.frz i) r = frzK r i r[i]? := by
  show (match r[i]? with | some (.own xs) => T.ret (Fl.nx (r.set i (.val (.lst xs)))) | some (.val d) => T.ret (Fl.nx r) | _ => T.bad) = _
  cases r[i]? with
  | none => rfl
  | some s => cases s <;> rfl
theorem k_frzO {i : Nat} {xs : List D} : frzK r i (some (.own xs)) = .ret (.nx (r.set i (.val (.lst xs)))) := rfl
theorem k_frzV {i : Nat} {d : D} : frzK r i (some (.val d)) = .ret (.nx r) := rfl
def retVK : Option Sl → T Fl
  | some (.own xs) => .ret (.rt (.new xs))
  | some (.val d) => .ret (.rt d)
  | _ => .bad
theorem s_retV {i : Nat} : ex call wh (.ret (.var i)) r = retVK r[i]? := by
  show (match r[i]? with | some (.own xs) => T.ret (Fl.rt (.new xs)) | some (.val d) => T.ret (Fl.rt d) | _ => T.bad) = _
  cases r[i]? with
  | none => rfl
  | some s => cases s <;> rfl
theorem k_retO {xs : List D} : retVK (some (.own xs)) = .ret (.rt (.new xs)) := rfl
theorem k_retV {d : D} : retVK (some (.val d)) = .ret (.rt d) := rfl
def retK : D → T Fl
  | .bor _ => .bad
  | d => .ret (.rt d)
theorem s_ret {e : X} (h : ∀ i, e ≠ .var i) : ex call wh (.ret e) r = (evs call e).E r >>= retK := by
  have q : (fun d : D => match d with | .bor _ => T.bad | d => T.ret (Fl.rt d)) = retK := by
    funext d
    cases d <;> rfl
  cases e <;> first
    | exact (h _ rfl).elim
    | (rw [← q]; rfl)
theorem s_ret_non  : ex call wh (.ret .non) r = (evs call .non).E r >>= retK := s_ret (by simp)
theorem s_ret_bl {b : Bool} : ex call wh (.ret (.bl b)) r = (evs call (.bl b)).E r >>= retK := s_ret (by simp)
theorem s_ret_int {i : Int} : ex call wh (.ret (.int i)) r = (evs call (.int i)).E r >>= retK := s_ret (by simp)
theorem s_ret_str {x : Str} : ex call wh (.ret (.str x)) r = (evs call (.str x)).E r >>= retK := s_ret (by simp)
theorem s_ret_con {x : Str} {i : Int} : ex call wh (.ret (.con x i)) r = (evs call (.con x i)).E r >>= retK := s_ret (by simp)
theorem s_ret_bin {op : BOp} {a b : X} : ex call wh (.ret (.bin op a b)) r = (evs call (.bin op a b)).E r >>= retK := s_ret (by simp)
theorem s_ret_neg {a : X} : ex call wh (.ret (.neg a)) r = (evs call (.neg a)).E r >>= retK := s_ret (by simp)
theorem s_ret_cmp {op : COp} {a b : X} : ex call wh (.ret (.cmp op a b)) r = (evs call (.cmp op a b)).E r >>= retK := s_ret (by simp)
theorem s_ret_chain {o p : COp} {a b c : X} : ex call wh (.ret (.chain o p a b c)) r = (evs call (.chain o p a b c)).E r >>= retK := s_ret (by simp)
theorem s_ret_chain3 {o p q : COp} {a b c d : X} : ex call wh (.ret (.chain3 o p q a b c d)) r = (evs call (.chain3 o p q a b c d)).E r >>= retK := s_ret (by simp)
theorem s_ret_lrng {a b : X} : ex call wh (.ret (.lrng a b)) r = (evs call (.lrng a b)).E r >>= retK := s_ret (by simp)
theorem s_ret_and {a b : X} : ex call wh (.ret (.and a b)) r = (evs call (.and a b)).E r >>= retK := s_ret (by simp)
theorem s_ret_or {a b : X} : ex call wh (.ret (.or a b)) r = (evs call (.or a b)).E r >>= retK := s_ret (by simp)
theorem s_ret_not {a : X} : ex call wh (.ret (.not a)) r = (evs call (.not a)).E r >>= retK := s_ret (by simp)
theorem s_ret_ite {t a b : X} : ex call wh (.ret (.ite t a b)) r = (evs call (.ite t a b)).E r >>= retK := s_ret (by simp)
theorem s_ret_tup {as : X} : ex call wh (.ret (.tup as)) r = (evs call (.tup as)).E r >>= retK := s_ret (by simp)
theorem s_ret_lst {as : X} : ex call wh (.ret (.lst as)) r = (evs call (.lst as)).E r >>= retK := s_ret (by simp)
theorem s_ret_idx {a i : X} : ex call wh (.ret (.idx a i)) r = (evs call (.idx a i)).E r >>= retK := s_ret (by simp)
theorem s_ret_slc {a lo hi : X} : ex call wh (.ret (.slc a lo hi)) r = (evs call (.slc a lo hi)).E r >>= retK := s_ret (by simp)
theorem s_ret_call {f : Nat} {as : X} : ex call wh (.ret (.call f as)) r = (evs call (.call f as)).E r >>= retK := s_ret (by simp)
theorem s_ret_callK {f : Nat} {pm : List Nat} {as : X} : ex call wh (.ret (.callK f pm as)) r = (evs call (.callK f pm as)).E r >>= retK := s_ret (by simp)
theorem s_ret_op0 {o : O0} : ex call wh (.ret (.op0 o)) r = (evs call (.op0 o)).E r >>= retK := s_ret (by simp)
theorem s_ret_op1 {o : O1} {a : X} : ex call wh (.ret (.op1 o a)) r = (evs call (.op1 o a)).E r >>= retK := s_ret (by simp)
theorem s_ret_callM {f m : Nat} {pm : List Nat} {as bs : X} : ex call wh (.ret (.callM f m pm as bs)) r = (evs call (.callM f m pm as bs)).E r >>= retK := s_ret (by simp)
theorem s_ret_blt {f : Blt} {as : X} : ex call wh (.ret (.blt f as)) r = (evs call (.blt f as)).E r >>= retK := s_ret (by simp)
theorem s_ret_isx {nx k : Nat} {a : X} : ex call wh (.ret (.isx nx k a)) r = (evs call (.isx nx k a)).E r >>= retK := s_ret (by simp)
theorem s_ret_errs {i tag : Nat} {ss : List Str} {ks st : X} : ex call wh (.ret (.errs i tag ss ks st)) r = (evs call (.errs i tag ss ks st)).E r >>= retK := s_ret (by simp)
theorem s_ret_isk {f : Blt} {a : X} : ex call wh (.ret (.isk f a)) r = (evs call (.isk f a)).E r >>= retK := s_ret (by simp)
theorem s_ret_comp {tg : Tg} {it cond elt : X} {own : List (Str × Nat)} : ex call wh (.ret (.comp tg it cond elt own)) r = (evs call (.comp tg it cond elt own)).E r >>= retK := s_ret (by simp)
def appK (r : Env) (i : Nat) (e : T D) : Option Sl → T Fl
  | some (.own xs) => if xs.length < lim then e >>= fun d => fz d >>= fun d => .ret (.nx (r.set i (.own (xs ++ [d])))) else .bad
  | _ => .bad
theorem s_app {i : Nat} {e : X} : ex call wh (.app i e) r = appK r i ((evs call e).E r) r[i]? := by
  show (match r[i]? with | some (.own xs) => (if xs.length < lim then (evs call e).E r >>= fun d => fz d >>= fun d => T.ret (Fl.nx (r.set i (.own (xs ++ [d])))) else T.bad) | _ => T.bad) = _
  cases r[i]? with
  | none => rfl
  | some s => cases s <;> rfl
theorem k_app {i : Nat} {e : T D} {xs : List D} (h : xs.length < lim) : appK r i e (some (.own xs)) = e >>= fun d => fz d >>= fun d => .ret (.nx (r.set i (.own (xs ++ [d])))) := if_pos h
def runK : Fl → T D
  | .rt v => .ret v
  | .nx _ => .ret .non
  | _ => .bad
theorem run_eq {d : Df} {ds : List D} (h : ds.length = d.ps.length) : runD call wh d ds = ex call wh d.body (startE d.N ds) >>= runK := by
  have q : (fun fl : Fl => match fl with | .rt v => T.ret v | .nx _ => T.ret D.non | _ => T.bad) = runK := by
    funext fl
    cases fl <;> rfl
  unfold runD
  rw [if_pos h, ← q]
  all_goals rfl
theorem k_runR {d : D} : runK (.rt d) = .ret d := rfl
theorem k_runN : runK (.nx r) = .ret .non := rfl
def forK (set : D → Env → T Env) (body : Env → T Fl) (ds : List D) : Fl → T Fl
  | .nx r => forL set body ds r
  | .ct r => forL set body ds r
  | .bk r => .ret (.nx r)
  | .rt v => .ret (.rt v)
theorem for_nil {set : D → Env → T Env} {body : Env → T Fl} : forL set body [] r = .ret (.nx r) := rfl
theorem for_cons {set : D → Env → T Env} {body : Env → T Fl} {d : D} {ds : List D} : forL set body (d :: ds) r = set d r >>= fun r1 => body r1 >>= forK set body ds := by
  have q : (fun fl : Fl => match fl with | .nx r2 => forL set body ds r2 | .ct r2 => forL set body ds r2 | .bk r2 => T.ret (Fl.nx r2) | .rt v => T.ret (Fl.rt v)) = forK set body ds := by
    funext fl
    cases fl <;> rfl
  rw [← q]
  rfl
theorem k_forN {set : D → Env → T Env} {body : Env → T Fl} {ds : List D} : forK set body ds (.nx r) = forL set body ds r := rfl
theorem k_forC {set : D → Env → T Env} {body : Env → T Fl} {ds : List D} : forK set body ds (.ct r) = forL set body ds r := rfl
theorem k_forB {set : D → Env → T Env} {body : Env → T Fl} {ds : List D} : forK set body ds (.bk r) = .ret (.nx r) := rfl
theorem k_forR {set : D → Env → T Env} {body : Env → T Fl} {ds : List D} {v : D} : forK set body ds (.rt v) = .ret (.rt v) := rfl
theorem g_nm {i : Nat} {d : D} : bindTg (.nm i) d r = .ret (r.set i (.val d)) := rfl
theorem g_tp {is : List Nat} {ds : List D} : bindTg (.tp is) (.tup ds) r = ofO (setAll is ds r) := rfl
theorem o_some {a : Type} {x : a} : ofO (some x) = .ret x := rfl
/-- a comprehension over what is reckoned -/
theorem comp_map {tg : Tg} {ws : List Nat} {b : Env → T Bool} {e : Env → T D} {f : D → D} : ∀ {ds : List D}, (∀ d ∈ ds, compF tg ws b e r d = .ret (some (f d))) → compL (compF tg ws b e r) ds = .ret (ds.map f)
  | [], _ => rfl
  | d :: ds, h => by
    unfold compL
    rw [h d List.mem_cons_self, ret_bind, comp_map (fun x hx => h x (List.mem_cons_of_mem _ hx))]
    rfl
theorem comp_fmap {tg : Tg} {ws : List Nat} {b : Env → T Bool} {e : Env → T D} {f : D → Option D} : ∀ {ds : List D}, (∀ d ∈ ds, compF tg ws b e r d = .ret (f d)) → compL (compF tg ws b e r) ds = .ret (ds.filterMap f)
  | [], _ => rfl
  | d :: ds, h => by
    unfold compL
    rw [h d List.mem_cons_self, ret_bind, comp_fmap (fun x hx => h x (List.mem_cons_of_mem _ hx)), ret_bind, List.filterMap_cons]
    cases f d <;> rfl
theorem noErr_ret {a : Type} {x : a} : noErr (.ret x) = .ret x := rfl
theorem compF_eq {tg : Tg} {ws : List Nat} {b : Env → T Bool} {e : Env → T D} {d : D} : compF tg ws b e r d = bindTg tg d (wipeE r ws) >>= fun r2 => b r2 >>= fun k => if k = true then e r2 >>= fun y => fz y >>= fun y => .ret (some y) else .ret none := rfl
theorem comp_mapM {α : Type} {tg : Tg} {ws : List Nat} {b : Env → T Bool} {e : Env → T D} {g : α → D} {f : α → D} {l : List α} (h : ∀ x ∈ l, compF tg ws b e r (g x) = .ret (some (f x))) : compL (compF tg ws b e r) (l.map g) = .ret (l.map f) := by
  induction l with
  | nil => rfl
  | cons x l ih =>
    rw [List.map_cons]
    unfold compL
    rw [h x List.mem_cons_self, ret_bind, ih fun y hy => h y (List.mem_cons_of_mem _ hy)]
    rfl
theorem comp_fmapM {α : Type} {tg : Tg} {ws : List Nat} {b : Env → T Bool} {e : Env → T D} {g : α → D} {f : α → Option D} {l : List α} (h : ∀ x ∈ l, compF tg ws b e r (g x) = .ret (f x)) : compL (compF tg ws b e r) (l.map g) = .ret (l.filterMap f) := by
  induction l with
  | nil => rfl
  | cons x l ih =>
    rw [List.map_cons]
    unfold compL
    rw [h x List.mem_cons_self, ret_bind, ih fun y hy => h y (List.mem_cons_of_mem _ hy), ret_bind, List.filterMap_cons]
    cases f x <;> rfl
theorem filterMap_ite {α β : Type} {p : α → Prop} [DecidablePred p] {g : α → β} : ∀ l : List α, (l.filterMap fun x => if p x then some (g x) else none) = (l.filter fun x => decide (p x)).map g
  | [] => rfl
  | x :: l => by
    rw [List.filterMap_cons, List.filter_cons, filterMap_ite l]
    by_cases h : p x <;> simp [h]
theorem idx_last {xs : List D} : L2.atI xs (-1) = xs.getLast? := by
  unfold L2.atI L2.ixN
  rw [if_neg (by decide)]
  cases xs with
  | nil => rfl
  | cons x xs =>
    rw [if_pos (by rw [List.length_cons]; omega), List.getLast?_eq_getElem?, Option.bind_some]
    congr 1
    rw [List.length_cons]
    omega
theorem idx_nat {xs : List D} {i : Nat} {x : D} (h : xs[i]? = some x) : L2.atI xs (i : Int) = some x := by
  have hl := (List.getElem?_eq_some_iff.mp h).1
  unfold L2.atI L2.ixN
  rw [if_pos (by omega), if_pos (by omega), Option.bind_some]
  exact h
/-- handed back, or on -/
def hitK (o : Option D) (r : Env) : T Fl := match o with
  | some v => .ret (.rt v)
  | none => .ret (.nx r)
theorem for_find {α : Type} {set : D → Env → T Env} {body : Env → T Fl} {g : α → D} {Inv : Env → Prop} {hit : α → Option D} : ∀ (l : List α),
    (∀ x ∈ l, ∀ r, Inv r → ∃ r1, set (g x) r = .ret r1 ∧ ∃ r2, Inv r2 ∧ body r1 = hitK (hit x) r2) → ∀ r, Inv r → ∃ r2, Inv r2 ∧ forL set body (l.map g) r = hitK (l.findSome? hit) r2
  | [], _, r, hr => ⟨r, hr, rfl⟩
  | x :: l, h, r, hr => by
    obtain ⟨r1, e1, r2, h2, e2⟩ := h x List.mem_cons_self r hr
    rw [List.map_cons, for_cons, e1, ret_bind, e2, List.findSome?_cons]
    cases q : hit x with
    | some v => exact ⟨r2, h2, rfl⟩
    | none =>
      obtain ⟨r3, h3, e3⟩ := for_find l (fun y hy => h y (List.mem_cons_of_mem _ hy)) r2 h2
      exact ⟨r3, h3, e3⟩
theorem for_fold {α St : Type} {set : D → Env → T Env} {body : Env → T Fl} {g : α → D} {Inv : St → Env → Prop} {step : α → St → St} : ∀ (l : List α),
    (∀ x ∈ l, ∀ s r, Inv s r → ∃ r1, set (g x) r = .ret r1 ∧ ∃ r2, Inv (step x s) r2 ∧ body r1 = .ret (.nx r2)) → ∀ s r, Inv s r → ∃ r2, Inv (l.foldl (fun s x => step x s) s) r2 ∧ forL set body (l.map g) r = .ret (.nx r2)
  | [], _, s, r, hr => ⟨r, hr, rfl⟩
  | x :: l, h, s, r, hr => by
    obtain ⟨r1, e1, r2, h2, e2⟩ := h x List.mem_cons_self s r hr
    rw [List.map_cons, for_cons, e1, ret_bind, e2]
    exact for_fold l (fun y hy => h y (List.mem_cons_of_mem _ hy)) (step x s) r2 h2
/-- a loop that draws: Inv by what is still to come -/
def goP (I : Env → Prop) (V : D → Prop) : Fl → Prop
  | .nx r => I r
  | .rt v => V v
  | _ => False
theorem for_all {α : Type} {set : D → Env → T Env} {body : Env → T Fl} {g : α → D} {Inv : List α → Env → Prop} {V : D → Prop} {E : Nat → Prop} : ∀ (l : List α),
    (∀ x l' r, Inv (x :: l') r → ∃ r1, set (g x) r = .ret r1 ∧ (body r1).All0 (goP (Inv l') V) E) → ∀ r, Inv l r → (forL set body (l.map g) r).All0 (goP (Inv []) V) E
  | [], _, r, hr => hr
  | x :: l, h, r, hr => by
    obtain ⟨r1, e1, h2⟩ := h x l r hr
    rw [List.map_cons, for_cons, e1, ret_bind, all0_bind]
    refine All0.mono h2 (fun fl q => ?_) fun _ e => e
    cases fl with
    | nx r2 => exact for_all l h r2 q
    | rt v => exact q
    | bk _ => exact q.elim
    | ct _ => exact q.elim
theorem noErr_all0 {a : Type} {P : a → Prop} {E : Nat → Prop} {t : T a} (h : t.All0 P fun _ => False) : (noErr t).All0 P E := by
  induction t with
  | ret x => exact h
  | err c => exact h.elim
  | bad => exact h
  | draw n k ih => exact fun d h0 h1 => ih d (h d h0 h1)
theorem compL_all {α : Type} {f : D → T (Option D)} {g : α → D} {P : D → Prop} {E : Nat → Prop} : ∀ (l : List α), (∀ x ∈ l, (f (g x)).All0 (fun o => ∃ y, o = some y ∧ P y) E) → (compL f (l.map g)).All0 (fun ys => ys.length = l.length ∧ ∀ y ∈ ys, P y) E
  | [], _ => ⟨rfl, fun _ h => by cases h⟩
  | x :: l, h => by
    rw [List.map_cons]
    unfold compL
    rw [all0_bind]
    refine All0.mono (h x List.mem_cons_self) (fun o q => ?_) fun _ e => e
    obtain ⟨y, rfl, hy⟩ := q
    rw [all0_bind]
    refine All0.mono (compL_all l fun z hz => h z (List.mem_cons_of_mem _ hz)) (fun ys q => ?_) fun _ e => e
    refine ⟨congrArg Nat.succ q.1, fun z hz => ?_⟩
    rcases List.mem_cons.mp hz with e | e
    · rw [e]; exact hy
    · exact q.2 z e
theorem draw_ok {k : Int} (h : 0 < k) (h2 : k < 2 ^ 64) : drawP [.sta, .int k] = .draw k fun d => .ret (.int d) := by
  show (if decide (0 < k ∧ k < 2 ^ 200) = true then T.draw k fun d => T.ret (D.int d) else T.bad) = _
  rw [if_pos (decide_eq_true ⟨h, Int.lt_of_lt_of_le h2 (by decide +kernel)⟩)]
theorem findSome_pairs {α β γ : Type} {M : α → List β} {p : α × β → Bool} {v : α × β → γ} : ∀ (l : List α), (l.findSome? fun a => (M a).findSome? fun b => if p (a, b) = true then some (v (a, b)) else none) = ((l.flatMap fun a => (M a).map fun b => (a, b)).find? p).map v
  | [] => rfl
  | a :: l => by
    have one : ∀ m : List β, (m.findSome? fun b => if p (a, b) = true then some (v (a, b)) else none) = ((m.map fun b => (a, b)).find? p).map v := by
      intro m
      induction m with
      | nil => rfl
      | cons b m ih =>
        rw [List.findSome?_cons, List.map_cons, List.find?_cons]
        cases p (a, b) with
        | true => rfl
        | false => exact ih
    rw [List.findSome?_cons, one, List.flatMap_cons, List.find?_append, findSome_pairs l]
    cases (List.find? p ((M a).map fun b => (a, b))) with
    | none => rfl
    | some x => rfl
end
/-- All0, closed: Lean's whnf stops here -/
structure Yes {a : Type} (P : a → Prop) (t : T a) : Prop where
  all : t.All0 P fun _ => False
theorem Yes.of_eq {a : Type} {P : a → Prop} {t u : T a} (e : t = u) (h : Yes P u) : Yes P t := e ▸ h
end PV
end
section
set_option maxHeartbeats 4000000
/-! PvH: what the head says of own exceptions, of tables, of _law_caught. -/
namespace PV
open PySem PySem.Spec PyProof.Rows L2
def excB (K : PySem.W.Frag) (D : Addr) : Bool :=
  He.eqO (PySem.W.findIn K (.ref D) "__getattribute__") (some (some (.builtin "BaseException.__getattribute__"))) && (He.eqO (PySem.W.findIn K (.ref D) "__getattr__") (some none) && (decide (PySem.W.subIn K (.ref D) (.type "BaseException") = some true) && (PySem.W.hasDictIn K D &&
    (He.eqO (PySem.W.findIn K (.ref D) "__class__") (some (some (.builtin "object.__class__"))) && (He.eqO (PySem.W.specialIn K (.builtin "object.__class__") "__get__") (some (some (.builtin "getset_descriptor.__get__"))) && (decide (PySem.W.takesIn K (.builtin "object.__class__") = some true) && decide (PySem.W.mroIn K D (.type "object") = some true)))))))
theorem excB_ok {K : PySem.W.Frag} {D : Addr} (h : excB K D = true) : ExcC K D := by
  obtain ⟨h1, h⟩ := He.ba h
  obtain ⟨h2, h⟩ := He.ba h
  obtain ⟨h3, h⟩ := He.ba h
  obtain ⟨h4, h⟩ := He.ba h
  obtain ⟨h5, h⟩ := He.ba h
  obtain ⟨h6, h⟩ := He.ba h
  obtain ⟨h7, h8⟩ := He.ba h
  exact ⟨He.eqO_ok h1, He.eqO_ok h2, of_decide_eq_true h3, h4, He.eqO_ok h5, He.eqO_ok h6, of_decide_eq_true h7, of_decide_eq_true h8⟩
/-- the own classes cl (by name), isinstance of those at ks -/
def exsB (K : PySem.W.Frag) (ca : Nat → Addr) (nx : Nat) (ks : List Nat) : Bool :=
  ((List.range nx).all fun c => excB K (ca c)) && ks.all fun k => decide (PySem.W.kitOne K (.type "NoneType") (.ref (ca k)) = some false) && (List.range nx).all fun c => decide (PySem.W.kitOne K (.ref (ca c)) (.ref (ca k)) = some (decide (c = k)))
theorem exsB_ok {g : G} {nx : Nat} {ks : List Nat} (h : exsB g.K g.cad nx ks = true) {k : Nat} (hk : k ∈ ks) {y : Str} (hm : g.mg y = some (.ref (g.cad k))) : ExsF g nx k y := by
  obtain ⟨h1, h2⟩ := He.ba h
  obtain ⟨h3, h4⟩ := He.ba (List.all_eq_true.mp h2 k hk)
  exact ⟨hm, fun c hc => of_decide_eq_true (List.all_eq_true.mp h4 c (List.mem_range.mpr hc)), of_decide_eq_true h3, fun c hc => excB_ok (List.all_eq_true.mp h1 c (List.mem_range.mpr hc))⟩
def cauB (K : PySem.W.Frag) (ca : Nat → Addr) (nx : Nat) (CS : Addr) : Bool := (List.range nx).all fun c => decide (PySem.W.exmOne K (.ref (ca c)) (.ref CS) = some true)
theorem cauF_of {g : G} {nx : Nat} {st : Stmt} {f CS : Addr} {fd : FuncData} (F : FunD g.K "_law_caught" "_law_caught" (defArgs st) (defBody st) (defScope st) [] [] f fd) (hm : g.mg "_law_caught" = some (.ref f))
    {k : Nat} {p1 p2 p3 p4 p5 p6 p7 p8 p9 p10 p11 p12 p13 p14 : Pos} (hb : defBody st = caughtB p1 p2 p3 p4 p5 p6 p7 p8 p9 p10 p11 p12 p13 p14 k) (S : FnScope NC ["work"] (defScope st)) (bb : Binds g.K fd ["work"] [])
    (h1 : (defScope st).names.lookup ("HoweverError" : Str) = some .globalImplicit) (h2 : (defScope st).names.lookup ("caught" : Str) = some .local) (h3 : (defScope st).names.lookup ("error" : Str) = some .local) (hv : Vis (defScope st) "work")
    (hC : g.mg "HoweverError" = some (.ref CS)) (hx : cauB g.K g.cad nx CS = true) : CauF g nx := by
  obtain ⟨oc, od, dV, kV, doc, pm, an, cdv, ct, osl, rfl, lk, hcd, _, _⟩ := F.ex
  rw [hb] at lk bb
  exact ⟨f, CS, k, p1, p2, p3, p4, p5, p6, p7, p8, p9, p10, p11, p12, p13, p14, _, _, dV, kV, doc, pm, cdv, ct, oc, an, od, osl, hm, F.kp, lk, hcd, bb, S, hv, h1, h2, h3, hC, fun c hc => of_decide_eq_true (List.all_eq_true.mp hx c (List.mem_range.mpr hc))⟩
theorem firF_of {g : G} {nx : Nat} {st : Stmt} {f : Addr} {fd : FuncData} (F : FunD g.K "_law_pt_first_errors" "_law_pt_first_errors" (defArgs st) (defBody st) (defScope st) [] [] f fd) (hm : g.mg "_law_pt_first_errors" = some (.ref f)) (hI : IsFirst (defBody st)) (S : FnScope NF ["works", "stages"] (defScope st)) (bb : Binds g.K fd ["works", "stages"] [])
    (loc : (NF.all fun x => decide ((defScope st).names.lookup x = some .local)) = true) (gl : ((["zip", "_law_caught", "isinstance", "BadPot", "BadLeft", "BadClaims", "BadStretch"] : List Str).all fun x => decide ((defScope st).names.lookup x = some .globalImplicit)) = true)
    {k1 k2 k3 k4 : Nat} (x1 : ExsF g nx k1 "BadPot") (x2 : ExsF g nx k2 "BadLeft") (x3 : ExsF g nx k3 "BadClaims") (x4 : ExsF g nx k4 "BadStretch") : FirF g nx [(("pot" : Str), k1), (("left" : Str), k2), (("claims" : Str), k3), (("stretch" : Str), k4)] := by
  obtain ⟨oc, od, dV, kV, doc, pm, an, cdv, ct, osl, rfl, lk, hcd, _, _⟩ := F.ex
  exact ⟨f, _, _, _, dV, kV, doc, pm, cdv, ct, oc, an, od, osl, k1, k2, k3, k4, hm, F.kp, lk, hcd, bb, S, hI, fun x hx => of_decide_eq_true (List.all_eq_true.mp loc x hx), fun x hx => of_decide_eq_true (List.all_eq_true.mp gl x hx), rfl, x1, x2, x3, x4⟩
/-! ### tables -/
def TK (K : PySem.W.Frag) (tf : List He.Defn) : List (Addr × Str) := tf.map fun p => ((He.cT K p).2, p.1 ++ ".<locals>." ++ "<lambda>")
theorem nodup_inj {α β : Type} {f : α → β} : ∀ {l : List α}, (l.map f).Nodup → ∀ {x y : α}, x ∈ l → y ∈ l → f x = f y → x = y
  | a :: l, h, x, y, hx, hy, e => by
    rw [List.map_cons, List.nodup_cons] at h
    rcases List.mem_cons.mp hx with rfl | hx2 <;> rcases List.mem_cons.mp hy with rfl | hy2
    · rfl
    · exact absurd (e ▸ List.mem_map_of_mem hy2) h.1
    · exact absurd (e.symm ▸ List.mem_map_of_mem hx2) h.1
    · exact nodup_inj h.2 hx2 hy2 e
theorem lamD_of {P : Program} {w : World} {K : PySem.W.Frag} {mg : Str → Option Value} {base : Heap} {cad : Nat → Addr} {tf : List He.Defn} {Hs : Hp} {s gr ce : Addr} {x : Str} {pa : Arguments} {bo : List Stmt} {sc : Scope} {fd : FuncData}
    (F : FunD K x x pa bo sc [] [] (He.fAd K (x, none)) fd) (hm : ((x, none) : He.Defn) ∈ tf) (nd : (tf.map fun p => (He.cT K p).2).Nodup) (TB : ∀ p ∈ tf.map (He.cT K), LamX.TabB base mg p.1 p.2) : LamD (gD P w K mg base cad (TK K tf) Hs s gr ce) x fd := by
  refine ⟨(He.cT K (x, none)).1, (He.cT K (x, none)).2, TB _ (List.mem_map_of_mem hm), ?_, List.mem_map.mpr ⟨(x, none), hm, rfl⟩, fun q hq e => ?_⟩
  · obtain ⟨oc, od, dV, kV, doc, pm, an, cdv, ct, osl, rfl, lk, hcd, _, _⟩ := F.ex
    obtain ⟨c, rfl⟩ := He.codeIn_ref hcd
    show Value.ref c = Value.ref (He.codeOf K (x, none))
    rw [He.codeOf_eq lk rfl]
  · obtain ⟨p, hp, rfl⟩ := List.mem_map.mp hq
    have z := nodup_inj nd hp hm e
    rw [z]
end PV
end
section
set_option maxHeartbeats 4000000
namespace LW
open PySem PV
def d1 : Df := ⟨"is_whole", ["value"], ["value"],
  (.cons (.ret (.and (.isk .isint (.var 0)) (.and (.not (.isk .isbool (.var 0))) (.chain .lt .lt (.neg (.bin .pow (.int 10) (.int 18))) (.var 0) (.bin .pow (.int 10) (.int 18)))))) .nil)⟩
def d2 : Df := ⟨"is_pot", ["value"], ["value", "item"],
  (.cons (.iff (.or (.not (.isk .istup (.var 0))) (.cmp .ne (.blt .len (.cons (.var 0) .nil)) (.int 2))) (.cons (.ret (.bl false)) .nil) .nil) (.cons (.ret (.and (.blt .all (.cons (.comp (.nm 1) (.var 0) .yes (.and (.call 1 (.cons (.var 1) .nil)) (.cmp .lt (.blt .abs (.cons (.var 1) .nil)) (.con "MOST_POT" 1000000000000000))) [("item", 1)]) .nil)) (.cmp .lt (.idx (.var 0) (.int 0)) (.idx (.var 0) (.int 1))))) .nil))⟩
def d3 : Df := ⟨"need_pot", ["pot"], ["pot"],
  (.cons (.iff (.not (.call 2 (.cons (.var 0) .nil))) (.cons (.raise 3) .nil) .nil) .nil)⟩
def d4 : Df := ⟨"is_whole_number", ["value"], ["value"],
  (.cons (.ret (.and (.isk .isint (.var 0)) (.not (.isk .isbool (.var 0))))) .nil)⟩
def d5 : Df := ⟨"is_stretch", ["pot", "value"], ["pot", "value", "end", "start", "stop", "lost", "unpaid", "item"],
  (.cons (.expr (.call 3 (.cons (.var 0) .nil))) (.cons (.iff (.or (.not (.isk .istup (.var 1))) (.or (.cmp .ne (.blt .len (.cons (.var 1) .nil)) (.int 5)) (.not (.blt .all (.cons (.comp (.nm 7) (.var 1) .yes (.call 4 (.cons (.var 7) .nil)) [("item", 7)]) .nil))))) (.cons (.ret (.bl false)) .nil) .nil) (.cons (.asgT [2, 3, 4, 5, 6] (.var 1)) (.cons (.iff (.or (.not (.chain3 .le .le .le (.idx (.var 0) (.int 0)) (.var 3) (.var 4) (.idx (.var 0) (.int 1)))) (.or (.cmp .lt (.var 2) (.idx (.var 0) (.int 0))) (.cmp .gt (.bin .sub (.bin .add (.var 2) (.var 4)) (.var 3)) (.idx (.var 0) (.int 1))))) (.cons (.ret (.bl false)) .nil) .nil) (.cons (.ret (.and (.cmp .ge (.var 5) (.int 0)) (.and (.cmp .ge (.var 6) (.int 0)) (.or (.cmp .eq (.var 3) (.var 4)) (.cmp .eq (.bin .add (.var 5) (.var 6)) (.int 0)))))) .nil)))))⟩
def d6 : Df := ⟨"need_stretch", ["pot", "stretch"], ["pot", "stretch"],
  (.cons (.iff (.not (.call 5 (.cons (.var 0) (.cons (.var 1) .nil)))) (.cons (.raise 4) .nil) .nil) .nil)⟩
def d7 : Df := ⟨"link", ["one", "other"], ["one", "other", "start", "stop", "low", "high", "lost", "unpaid"],
  (.cons (.par [4, 5] (.cons (.idx (.var 0) (.int 0)) (.cons (.bin .sub (.bin .add (.idx (.var 0) (.int 0)) (.idx (.var 0) (.int 2))) (.idx (.var 0) (.int 1))) .nil))) (.cons (.par [6, 7] (.cons (.bin .add (.idx (.var 0) (.int 3)) (.idx (.var 1) (.int 3))) (.cons (.bin .add (.idx (.var 0) (.int 4)) (.idx (.var 1) (.int 4))) .nil))) (.cons (.iff (.cmp .le (.var 5) (.idx (.var 1) (.int 1))) (.cons (.ret (.tup (.cons (.idx (.var 1) (.int 0)) (.cons (.idx (.var 0) (.int 2)) (.cons (.idx (.var 0) (.int 2)) (.cons (.var 6) (.cons (.bin .sub (.bin .add (.var 7) (.idx (.var 1) (.int 1))) (.var 5)) .nil))))))) .nil) .nil) (.cons (.iff (.cmp .ge (.var 4) (.idx (.var 1) (.int 2))) (.cons (.ret (.tup (.cons (.bin .sub (.bin .add (.idx (.var 1) (.int 0)) (.idx (.var 1) (.int 2))) (.idx (.var 1) (.int 1))) (.cons (.idx (.var 0) (.int 1)) (.cons (.idx (.var 0) (.int 1)) (.cons (.bin .sub (.bin .add (.var 6) (.var 4)) (.idx (.var 1) (.int 2))) (.cons (.var 7) .nil))))))) .nil) .nil) (.cons (.asgF 2 (.bin .add (.idx (.var 0) (.int 1)) (.blt .max (.cons (.int 0) (.cons (.bin .sub (.idx (.var 1) (.int 1)) (.var 4)) .nil))))) (.cons (.asgF 3 (.bin .sub (.idx (.var 0) (.int 2)) (.blt .max (.cons (.int 0) (.cons (.bin .sub (.var 5) (.idx (.var 1) (.int 2))) .nil))))) (.cons (.ret (.tup (.cons (.bin .add (.idx (.var 1) (.int 0)) (.blt .max (.cons (.int 0) (.cons (.bin .sub (.var 4) (.idx (.var 1) (.int 1))) .nil)))) (.cons (.var 2) (.cons (.var 3) (.cons (.var 6) (.cons (.var 7) .nil))))))) .nil)))))))⟩
def d8 : Df := ⟨"linked", ["pot", "one", "other"], ["pot", "one", "other"],
  (.cons (.expr (.call 6 (.cons (.var 0) (.cons (.var 1) .nil)))) (.cons (.expr (.call 6 (.cons (.var 0) (.cons (.var 2) .nil)))) (.cons (.ret (.call 7 (.cons (.var 1) (.cons (.var 2) .nil)))) .nil)))⟩
def d9 : Df := ⟨"_law_pick", ["state", "several"], ["state", "several"],
  (.cons (.ret (.idx (.var 1) (.call 0 (.cons (.var 0) (.cons (.blt .len (.cons (.var 1) .nil)) .nil))))) .nil)⟩
def d10 : Df := ⟨"_law_pt_pot", ["state"], ["state", "floor"],
  (.cons (.asgF 1 (.bin .sub (.call 0 (.cons (.var 0) (.cons (.int 9) .nil))) (.int 4))) (.cons (.iff (.cmp .eq (.call 0 (.cons (.var 0) (.cons (.int 4) .nil))) (.int 0)) (.cons (.asgF 1 (.bin .sub (.call 0 (.cons (.var 0) (.cons (.bin .pow (.int 10) (.int 15)) .nil))) (.bin .pow (.int 10) (.int 14)))) (.cons (.ret (.tup (.cons (.var 1) (.cons (.blt .min (.cons (.bin .sub (.bin .pow (.int 10) (.int 15)) (.int 1)) (.cons (.bin .add (.bin .add (.var 1) (.int 1)) (.call 0 (.cons (.var 0) (.cons (.bin .pow (.int 10) (.int 14)) .nil)))) .nil))) .nil)))) .nil)) .nil) (.cons (.ret (.tup (.cons (.var 1) (.cons (.bin .add (.bin .add (.var 1) (.int 1)) (.call 0 (.cons (.var 0) (.cons (.int 9) .nil)))) .nil)))) .nil)))⟩
def d11 : Df := ⟨"_law_pt_claim", ["state", "wide"], ["state", "wide", "size", "found"],
  (.cons (.asgF 2 (.call 0 (.cons (.var 0) (.cons (.int 5) .nil)))) (.cons (.iff (.cmp .eq (.var 2) (.int 0)) (.cons (.asgF 3 (.call 0 (.cons (.var 0) (.cons (.int 3) .nil)))) .nil) (.cons (.iff (.cmp .lt (.var 2) (.int 3)) (.cons (.asgF 3 (.call 0 (.cons (.var 0) (.cons (.bin .add (.var 1) (.int 1)) .nil)))) .nil) (.cons (.iff (.cmp .eq (.var 2) (.int 3)) (.cons (.asgF 3 (.bin .sub (.bin .add (.var 1) (.call 0 (.cons (.var 0) (.cons (.int 3) .nil)))) (.int 1))) .nil) (.cons (.asgF 3 (.call 0 (.cons (.var 0) (.cons (.bin .add (.bin .mul (.int 3) (.var 1)) (.int 2)) .nil)))) .nil)) .nil)) .nil)) (.cons (.ret (.ite (.cmp .eq (.call 0 (.cons (.var 0) (.cons (.int 2) .nil))) (.int 0)) (.neg (.var 3)) (.var 3))) .nil)))⟩
def d12 : Df := ⟨"_law_pt_claims", ["state", "pot", "most"], ["state", "pot", "most", "turn"],
  (.cons (.ret (.comp (.nm 3) (.rng1 (.call 0 (.cons (.var 0) (.cons (.bin .add (.var 2) (.int 1)) .nil)))) .yes (.call 11 (.cons (.var 0) (.cons (.bin .sub (.idx (.var 1) (.int 1)) (.idx (.var 1) (.int 0))) .nil))) [("turn", 3)])) .nil)⟩
def d13 : Df := ⟨"_law_pt_step", ["pot", "left", "claim"], ["pot", "left", "claim", "rest"],
  (.cons (.asgF 3 (.bin .sub (.var 1) (.var 2))) (.cons (.ret (.tup (.cons (.blt .min (.cons (.idx (.var 0) (.int 1)) (.cons (.blt .max (.cons (.idx (.var 0) (.int 0)) (.cons (.var 3) .nil))) .nil))) (.cons (.blt .max (.cons (.int 0) (.cons (.bin .sub (.idx (.var 0) (.int 0)) (.var 3)) .nil))) (.cons (.blt .max (.cons (.int 0) (.cons (.bin .sub (.var 3) (.idx (.var 0) (.int 1))) .nil))) .nil))))) .nil))⟩
def d14 : Df := ⟨"_law_pt_led", ["pot", "left", "claims"], ["pot", "left", "claims", "claim", "unpaid", "lost", "row"],
  (.cons (.asgT [4, 5] (.tup (.cons (.int 0) (.cons (.int 0) .nil)))) (.cons (.for_ (.nm 3) (.var 2) (.cons (.asgF 6 (.call 13 (.cons (.var 0) (.cons (.var 1) (.cons (.var 3) .nil))))) (.cons (.par [1, 4, 5] (.cons (.idx (.var 6) (.int 0)) (.cons (.bin .add (.var 4) (.idx (.var 6) (.int 1))) (.cons (.bin .add (.var 5) (.idx (.var 6) (.int 2))) .nil)))) .nil))) (.cons (.ret (.tup (.cons (.var 1) (.cons (.var 4) (.cons (.var 5) .nil))))) .nil)))⟩
def d15 : Df := ⟨"_law_pt_stretch", ["pot", "claims"], ["pot", "claims", "low", "high"],
  (.cons (.par [2, 3] (.cons (.call 14 (.cons (.var 0) (.cons (.idx (.var 0) (.int 0)) (.cons (.var 1) .nil)))) (.cons (.call 14 (.cons (.var 0) (.cons (.idx (.var 0) (.int 1)) (.cons (.var 1) .nil)))) .nil))) (.cons (.ret (.tup (.cons (.idx (.var 2) (.int 0)) (.cons (.bin .sub (.bin .add (.idx (.var 0) (.int 0)) (.idx (.var 2) (.int 1))) (.idx (.var 3) (.int 1))) (.cons (.bin .sub (.idx (.var 0) (.int 1)) (.bin .sub (.idx (.var 3) (.int 2)) (.idx (.var 2) (.int 2)))) (.cons (.idx (.var 2) (.int 2)) (.cons (.idx (.var 3) (.int 1)) .nil))))))) .nil))⟩
def d16 : Df := ⟨"_law_pt_acts", ["stretch", "left"], ["stretch", "left", "end", "start", "stop", "lost", "unpaid"],
  (.cons (.asgT [2, 3, 4, 5, 6] (.var 0)) (.cons (.ret (.tup (.cons (.bin .sub (.bin .add (.var 2) (.blt .min (.cons (.var 4) (.cons (.blt .max (.cons (.var 3) (.cons (.var 1) .nil))) .nil)))) (.var 3)) (.cons (.bin .add (.var 6) (.blt .max (.cons (.int 0) (.cons (.bin .sub (.var 3) (.var 1)) .nil)))) (.cons (.bin .add (.var 5) (.blt .max (.cons (.int 0) (.cons (.bin .sub (.var 1) (.var 4)) .nil)))) .nil))))) .nil))⟩
def d17 : Df := ⟨"_law_pt_lefts", ["pot"], ["pot", "floor", "cap"],
  (.cons (.asgT [1, 2] (.var 0)) (.cons (.iff (.cmp .le (.bin .sub (.var 2) (.var 1)) (.int 12)) (.cons (.ret (.lrng (.var 1) (.bin .add (.var 2) (.int 1)))) .nil) .nil) (.cons (.ret (.lst (.cons (.var 1) (.cons (.bin .add (.var 1) (.int 1)) (.cons (.bin .fdiv (.bin .add (.var 1) (.var 2)) (.int 2)) (.cons (.bin .sub (.var 2) (.int 1)) (.cons (.var 2) .nil))))))) .nil)))⟩
def d18 : Df := ⟨"_law_pt_no_pot", ["state"], ["state"],
  (.cons (.ret (.call 9 (.cons (.var 0) (.cons (.lst (.cons .non (.cons (.tup (.cons (.int 0) (.cons (.int 0) .nil))) (.cons (.tup (.cons (.int 1) (.cons (.int 0) .nil))) (.cons (.lst (.cons (.int 0) (.cons (.int 1) .nil))) (.cons (.tup (.cons (.int 0) (.cons (.int 1) (.cons (.int 2) .nil)))) (.cons (.tup (.cons (.int 0) .nil)) (.cons (.tup (.cons (.int 0) (.cons (.bin .pow (.int 10) (.int 15)) .nil))) (.cons (.tup (.cons (.neg (.bin .pow (.int 10) (.int 15))) (.cons (.int 0) .nil))) (.cons (.tup (.cons (.bl true) (.cons (.int 2) .nil))) (.cons (.tup (.cons (.int 0) (.cons (.str "1") .nil))) (.cons (.int 5) .nil)))))))))))) .nil)))) .nil)⟩
def d19 : Df := ⟨"_law_li_drawn", ["state", "pot"], ["state", "pot", "start", "stop", "end", "floor", "cap"],
  (.cons (.asgT [5, 6] (.var 1)) (.cons (.asgF 2 (.bin .add (.var 5) (.call 0 (.cons (.var 0) (.cons (.bin .add (.bin .sub (.var 6) (.var 5)) (.int 1)) .nil))))) (.cons (.asgF 3 (.call 9 (.cons (.var 0) (.cons (.lst (.cons (.var 2) (.cons (.var 6) (.cons (.bin .add (.var 2) (.call 0 (.cons (.var 0) (.cons (.bin .add (.bin .sub (.var 6) (.var 2)) (.int 1)) .nil)))) .nil)))) .nil)))) (.cons (.asgF 4 (.call 9 (.cons (.var 0) (.cons (.lst (.cons (.var 5) (.cons (.bin .add (.bin .sub (.var 6) (.var 3)) (.var 2)) (.cons (.bin .add (.var 5) (.call 0 (.cons (.var 0) (.cons (.bin .add (.bin .sub (.bin .add (.bin .sub (.var 6) (.var 3)) (.var 2)) (.var 5)) (.int 1)) .nil)))) .nil)))) .nil)))) (.cons (.iff (.cmp .lt (.var 2) (.var 3)) (.cons (.ret (.tup (.cons (.var 4) (.cons (.var 2) (.cons (.var 3) (.cons (.int 0) (.cons (.int 0) .nil))))))) .nil) .nil) (.cons (.ret (.tup (.cons (.var 4) (.cons (.var 2) (.cons (.var 3) (.cons (.call 0 (.cons (.var 0) (.cons (.call 9 (.cons (.var 0) (.cons (.lst (.cons (.int 9) (.cons (.bin .pow (.int 10) (.int 30)) .nil))) .nil))) .nil))) (.cons (.call 0 (.cons (.var 0) (.cons (.call 9 (.cons (.var 0) (.cons (.lst (.cons (.int 9) (.cons (.bin .pow (.int 10) (.int 30)) .nil))) .nil))) .nil))) .nil))))))) .nil))))))⟩
def d20 : Df := ⟨"_law_li_then", ["one", "other", "left"], ["one", "other", "left", "first", "second"],
  (.cons (.asgF 3 (.call 16 (.cons (.var 0) (.cons (.var 2) .nil)))) (.cons (.asgF 4 (.call 16 (.cons (.var 1) (.cons (.idx (.var 3) (.int 0)) .nil)))) (.cons (.ret (.tup (.cons (.idx (.var 4) (.int 0)) (.cons (.bin .add (.idx (.var 3) (.int 1)) (.idx (.var 4) (.int 1))) (.cons (.bin .add (.idx (.var 3) (.int 2)) (.idx (.var 4) (.int 2))) .nil))))) .nil)))⟩
def d21 : Df := ⟨"_law_li_link", ["pot", "one", "other"], ["pot", "one", "other", "low", "high"],
  (.cons (.par [3, 4] (.cons (.call 20 (.cons (.var 1) (.cons (.var 2) (.cons (.idx (.var 0) (.int 0)) .nil)))) (.cons (.call 20 (.cons (.var 1) (.cons (.var 2) (.cons (.idx (.var 0) (.int 1)) .nil)))) .nil))) (.cons (.ret (.tup (.cons (.idx (.var 3) (.int 0)) (.cons (.bin .sub (.bin .add (.idx (.var 0) (.int 0)) (.idx (.var 3) (.int 1))) (.idx (.var 4) (.int 1))) (.cons (.bin .sub (.idx (.var 0) (.int 1)) (.bin .sub (.idx (.var 4) (.int 2)) (.idx (.var 3) (.int 2)))) (.cons (.idx (.var 3) (.int 2)) (.cons (.idx (.var 4) (.int 1)) .nil))))))) .nil))⟩
def d22 : Df := ⟨"_law_li_row", ["pot", "row", "state"], ["pot", "row", "state", "turn", "at"],
  (.cons (.asgF 1 (.blt .list (.cons (.var 1) .nil))) (.cons (.for_ (.nm 3) (.rng1 (.bin .sub (.blt .len (.cons (.var 1) .nil)) (.int 1))) (.cons (.asgF 4 (.call 0 (.cons (.var 2) (.cons (.bin .sub (.blt .len (.cons (.var 1) .nil)) (.int 1)) .nil)))) (.cons (.asgF 1 (.bin .add (.bin .add (.slc (.var 1) .nopart (.part (.var 4))) (.lst (.cons (.call 8 (.cons (.var 0) (.cons (.idx (.var 1) (.var 4)) (.cons (.idx (.var 1) (.bin .add (.var 4) (.int 1))) .nil)))) .nil))) (.slc (.var 1) (.part (.bin .add (.var 4) (.int 2))) .nopart))) .nil))) (.cons (.ret (.idx (.var 1) (.int 0))) .nil)))⟩
def dL : Df := ⟨"law", ["script"], ["script", "state", "turn", "pot", "none", "row", "due", "other", "wrong", "no_pot", "works", "first", "second", "one", "found", "go", "left"],
  (.cons (.for_ (.nm 2) (.rng1 (.int 3)) (.cons (.asgF 3 (.call 10 (.cons (.var 1) .nil))) (.cons (.par [11, 12] (.cons (.call 12 (.cons (.var 1) (.cons (.var 3) (.cons (.int 30) .nil)))) (.cons (.call 12 (.cons (.var 1) (.cons (.var 3) (.cons (.int 30) .nil)))) .nil))) (.cons (.frz 11) (.cons (.frz 12) (.cons (.asgT [13, 7] (.tup (.cons (.call 15 (.cons (.var 3) (.cons (.var 11) .nil))) (.cons (.call 15 (.cons (.var 3) (.cons (.var 12) .nil))) .nil)))) (.cons (.iff (.cmp .ne (.call 8 (.cons (.var 3) (.cons (.var 13) (.cons (.var 7) .nil)))) (.call 15 (.cons (.var 3) (.cons (.bin .add (.var 11) (.var 12)) .nil)))) (.cons (.ret (.bl false)) .nil) .nil) (.cons (.asgF 4 (.call 15 (.cons (.var 3) (.cons (.lst .nil) .nil)))) (.cons (.asgF 5 (.bin .add (.lst (.cons (.var 13) (.cons (.var 7) .nil))) (.comp (.nm 15) (.rng1 (.call 0 (.cons (.var 1) (.cons (.int 39) .nil)))) .yes (.call 19 (.cons (.var 1) (.cons (.var 3) .nil))) [("go", 15)]))) (.cons (.for_ (.tp [13, 7]) (.zip (.var 5) (.bin .add (.slc (.var 5) (.part (.int 1)) .nopart) (.slc (.var 5) .nopart (.part (.int 1))))) (.cons (.asgF 14 (.callK 8 [2, 1, 0] (.cons (.var 7) (.cons (.var 13) (.cons (.var 3) .nil))))) (.cons (.iff (.or (.cmp .ne (.var 14) (.call 21 (.cons (.var 3) (.cons (.var 13) (.cons (.var 7) .nil))))) (.not (.isk .istup (.var 14)))) (.cons (.ret (.bl false)) .nil) .nil) (.cons (.iff (.cmp .ne (.comp (.nm 16) (.call 17 (.cons (.var 3) .nil)) (.cmp .ne (.call 16 (.cons (.var 14) (.cons (.var 16) .nil))) (.call 20 (.cons (.var 13) (.cons (.var 7) (.cons (.var 16) .nil))))) (.int 1) [("left", 16)]) (.lst .nil)) (.cons (.ret (.bl false)) .nil) .nil) .nil)))) (.cons (.iff (.or (.cmp .ne (.call 8 (.cons (.var 3) (.cons (.var 4) (.cons (.var 13) .nil)))) (.var 13)) (.cmp .ne (.call 8 (.cons (.var 3) (.cons (.var 13) (.cons (.var 4) .nil)))) (.var 13))) (.cons (.ret (.bl false)) .nil) .nil) (.cons (.asgF 6 (.idx (.var 5) (.int 0))) (.cons (.for_ (.nm 7) (.slc (.var 5) (.part (.int 1)) .nopart) (.cons (.asgF 6 (.call 21 (.cons (.var 3) (.cons (.var 6) (.cons (.var 7) .nil))))) .nil)) (.cons (.iff (.cmp .ne (.call 22 (.cons (.var 3) (.cons (.var 5) (.cons (.var 1) .nil)))) (.var 6)) (.cons (.ret (.bl false)) .nil) .nil) (.cons (.asgF 8 (.call 9 (.cons (.var 1) (.cons (.lst (.cons .non (.cons (.blt .list (.cons (.var 13) .nil)) (.cons (.slc (.var 13) .nopart (.part (.int 4))) (.cons (.bin .add (.var 13) (.tup (.cons (.int 0) .nil))) (.cons (.bin .add (.tup (.cons (.idx (.var 13) (.int 0)) (.cons (.bin .add (.idx (.var 13) (.int 2)) (.int 1)) .nil))) (.slc (.var 13) (.part (.int 2)) .nopart)) .nil)))))) .nil)))) (.cons (.asgF 9 (.call 18 (.cons (.var 1) .nil))) (.cons (.lams 10 0) (.cons (.iff (.not (.errs 10 0 ["pot", "stretch", "stretch"] (.cons (.must (.isx 5 3 (.caught 5 (.call 8 (.cons (.var 9) (.cons .non (.cons .non .nil))))))) (.cons (.must (.isx 5 4 (.caught 5 (.call 8 (.cons (.var 3) (.cons (.var 8) (.cons .non .nil))))))) (.cons (.must (.isx 5 4 (.caught 5 (.call 8 (.cons (.var 3) (.cons (.var 13) (.cons (.var 8) .nil))))))) .nil))) (.lst (.cons (.str "pot") (.cons (.str "stretch") (.cons (.str "stretch") .nil)))))) (.cons (.ret (.bl false)) .nil) .nil) .nil)))))))))))))))))) (.cons (.ret (.bl true)) .nil))⟩
def tab : Tab := [(1, d1), (2, d2), (3, d3), (4, d4), (5, d5), (6, d6), (7, d7), (8, d8), (9, d9), (10, d10), (11, d11), (12, d12), (13, d13), (14, d14), (15, d15), (16, d16), (17, d17), (18, d18), (19, d19), (20, d20), (21, d21), (22, d22)]
def WH : Nat := 2000
end LW
end
section
set_option maxHeartbeats 4000000
namespace LW
open PySem PySem.Spec PyProof.Rows L2 PV
def top (i : Nat) : Stmt := PySem.Challenge.pw_samehowever_k51_linked.main.body.getD i (.Pass ⟨0, 0, 0, 0⟩)
abbrev FnP (K : PySem.W.Frag) (x : Str) (st : Stmt) (f : Addr) (fd : FuncData) : Prop := FunD K x x (defArgs st) (defBody st) (defScope st) [] [] f fd

def fns : List (Nat × Str × Nat) := [(0, "_law_draw", 2), (1, "is_whole", 1), (2, "is_pot", 1), (3, "need_pot", 1), (4, "is_whole_number", 1), (5, "is_stretch", 2), (6, "need_stretch", 2), (7, "link", 2), (8, "linked", 3), (9, "_law_pick", 2), (10, "_law_pt_pot", 1), (11, "_law_pt_claim", 2), (12, "_law_pt_claims", 3), (13, "_law_pt_step", 3), (14, "_law_pt_led", 3), (15, "_law_pt_stretch", 2), (16, "_law_pt_acts", 2), (17, "_law_pt_lefts", 1), (18, "_law_pt_no_pot", 1), (19, "_law_li_drawn", 2), (20, "_law_li_then", 3), (21, "_law_li_link", 3), (22, "_law_li_row", 3)]
def cons : List (Str × Int) := [("MOST_POT", 1000000000000000)]
def cls : List (Nat × Str) := [(0, "HoweverError"), (1, "BadClaims"), (2, "BadLeft"), (3, "BadPot"), (4, "BadStretch")]
def kws : List (Nat × Str × List Str × List Nat) := [(8, "linked", ["other", "one", "pot"], [2, 1, 0])]
def mws : List (Nat × Str × Nat × List Str × List Nat) := []
def exs : List (Nat × Str) := [(1, "BadClaims"), (2, "BadLeft"), (3, "BadPot"), (4, "BadStretch")]
def nx : Nat := 5
def ltab : List (Nat × List X) := [(0, [(.call 8 (.cons (.var 9) (.cons .non (.cons .non .nil)))), (.call 8 (.cons (.var 3) (.cons (.var 8) (.cons .non .nil)))), (.call 8 (.cons (.var 3) (.cons (.var 13) (.cons (.var 8) .nil))))])]
def dues : List (Str × Nat) := [("pot", 3), ("left", 2), ("claims", 1), ("stretch", 4)]
def hasLam : Bool := true
def bfs : List (Str × String) := []
def ck1 : Ck := ⟨d1.N, fns, cons, cls, kws, mws, bfs, none, nx, exs, ltab, dues⟩
def ck2 : Ck := ⟨d2.N, fns, cons, cls, kws, mws, bfs, none, nx, exs, ltab, dues⟩
def ck3 : Ck := ⟨d3.N, fns, cons, cls, kws, mws, bfs, none, nx, exs, ltab, dues⟩
def ck4 : Ck := ⟨d4.N, fns, cons, cls, kws, mws, bfs, none, nx, exs, ltab, dues⟩
def ck5 : Ck := ⟨d5.N, fns, cons, cls, kws, mws, bfs, none, nx, exs, ltab, dues⟩
def ck6 : Ck := ⟨d6.N, fns, cons, cls, kws, mws, bfs, none, nx, exs, ltab, dues⟩
def ck7 : Ck := ⟨d7.N, fns, cons, cls, kws, mws, bfs, none, nx, exs, ltab, dues⟩
def ck8 : Ck := ⟨d8.N, fns, cons, cls, kws, mws, bfs, none, nx, exs, ltab, dues⟩
def ck9 : Ck := ⟨d9.N, fns, cons, cls, kws, mws, bfs, none, nx, exs, ltab, dues⟩
def ck10 : Ck := ⟨d10.N, fns, cons, cls, kws, mws, bfs, none, nx, exs, ltab, dues⟩
def ck11 : Ck := ⟨d11.N, fns, cons, cls, kws, mws, bfs, none, nx, exs, ltab, dues⟩
def ck12 : Ck := ⟨d12.N, fns, cons, cls, kws, mws, bfs, none, nx, exs, ltab, dues⟩
def ck13 : Ck := ⟨d13.N, fns, cons, cls, kws, mws, bfs, none, nx, exs, ltab, dues⟩
def ck14 : Ck := ⟨d14.N, fns, cons, cls, kws, mws, bfs, none, nx, exs, ltab, dues⟩
def ck15 : Ck := ⟨d15.N, fns, cons, cls, kws, mws, bfs, none, nx, exs, ltab, dues⟩
def ck16 : Ck := ⟨d16.N, fns, cons, cls, kws, mws, bfs, none, nx, exs, ltab, dues⟩
def ck17 : Ck := ⟨d17.N, fns, cons, cls, kws, mws, bfs, none, nx, exs, ltab, dues⟩
def ck18 : Ck := ⟨d18.N, fns, cons, cls, kws, mws, bfs, none, nx, exs, ltab, dues⟩
def ck19 : Ck := ⟨d19.N, fns, cons, cls, kws, mws, bfs, none, nx, exs, ltab, dues⟩
def ck20 : Ck := ⟨d20.N, fns, cons, cls, kws, mws, bfs, none, nx, exs, ltab, dues⟩
def ck21 : Ck := ⟨d21.N, fns, cons, cls, kws, mws, bfs, none, nx, exs, ltab, dues⟩
def ck22 : Ck := ⟨d22.N, fns, cons, cls, kws, mws, bfs, none, nx, exs, ltab, dues⟩
def ckL : Ck := ⟨dL.N, fns, cons, [], kws, mws, bfs, some (defScope (top 38)), nx, exs, ltab, dues⟩
end LW
namespace LW
open PySem PySem.Spec PyProof.Rows L2 PV
section
variable {P : Program} {w : World} {K : PySem.W.Frag} {mg : Str → Option Value} {base : Heap} {f fB : Addr} {fd fdB : FuncData} {s gr ce : Addr}
abbrev NB : List Str := ["state", "turn", "found", "prime", "blend", "cell"]
abbrev sB : Stmt := top 20
theorem scB : FnScope NB ["state"] (defScope sB) := ⟨rfl, rfl, rfl, by decide +kernel, rfl, by decide +kernel, by decide +kernel⟩
theorem ok_blended (F : FnP K "_law_blended" sB f fd) (gI : mg "int" = none) : FnOk P w K mg base CX0 1 f fd ["state"] (spBl s gr ce) := by
  refine F.ok scB (fun vs H Q E h => by obtain ⟨rfl, _⟩ := h; rfl) (fun cdv A outer s0 H vs Q E hr h => ?_)
  have hu := hu_of hr
  refine ⟨_, PSs.nox (pss_cons (ps_par rfl scB.nd (i := 1) (j := 2) rfl rfl (by decide) rfl rfl (pa_cons (pe_op op_add (pe_dget hu (pv 0) pe_str (fun _ _ => rfl)) pe_int) (pa_cons pe_int pa_nil)) (par2_swapped (sc := defScope sB) rfl scB.kind (by decide +kernel)))
    (pss_cons (ps_dput hu (pv 0) pe_str (pv 1) rfl)
    (pss_cons (ps_for PassesOwn.never rfl (pi_list (pe_lst (pa_cons pe_int (pa_cons pe_int (pa_cons pe_int pa_nil))))) (pg_name (i := 3) scB.nd rfl (Or.inl rfl))
       (pss_cons (ps_set (i := 4) scB.nd rfl (Or.inl rfl) (pe_op op_add (pe_op op_mul pe_int (pv 1)) (pe_op op_fdivW (pv 3) pe_int)))
        (pss_cons (ps_for PassesOwn.never rfl (pi_list (pe_dget hu (pv 0) pe_str (fun _ _ => rfl))) (pg_name (i := 5) scB.nd rfl (Or.inl rfl))
            (pss_one (ps_set (i := 4) scB.nd rfl (Or.inl rfl) (pe_op op_mod (pe_callTy call_int1 rfl gI boot_int (pa_cons (pe_op op_add (pe_op op_add (pe_op op_mul (pv 4) pe_int) (pv 5)) (pv 1)) pa_nil)) (pv 3)))))
        (pss_one (ps_set (i := 2) scB.nd rfl (Or.inl rfl) (pe_op op_add (pe_op op_mul (pv 2) pe_int) (pe_op op_mod (pe_callTy call_int1 rfl gI boot_int (pa_cons (pe_op op_powW (pv 4) pe_int) pa_nil)) (pv 3))))))))
    (pss_one (ps_ret (pv 2)))))), ?_⟩
  obtain ⟨rfl, l, t, ns, cs, G, ht, q⟩ := h
  have G1 := G.turn (v := t + 1) (by have := G.t0; omega)
  refine ⟨_, rfl, s, .int t, rfl, dg_turn G, t, 1, rfl, rfl, _, _, rfl, ?_⟩
  refine ⟨_, rfl, _, rfl, s, _, rfl, dp_turn G, ?_⟩
  refine ⟨by show 3 ≤ sizeLine; rw [sizeLine_eq]; omega, fun p hp => ⟨p, rfl, ⟨_, SqL.of upd_same⟩, ?_⟩⟩
  have kp : ∀ a o, upd H s (.dK (stK l (t + 1) gr ce)) a = some o → upd (upd H s (.dK (stK l (t + 1) gr ce))) p (.lst [.int 2147482937, .int 2147482921, .int 2147482877]) a = some o := fun a o e => by
    rw [upd_ne (ne_of_none e hp)]
    exact e
  have G2 := G1.keep kp
  have kq : ∀ a o, H a = some o → a ≠ s → upd (upd H s (.dK (stK l (t + 1) gr ce))) p (.lst [.int 2147482937, .int 2147482921, .int 2147482877]) a = some o := fun a o e n => kp a o (by rw [upd_ne n]; exact e)
  generalize hH2 : upd (upd H s (.dK (stK l (t + 1) gr ce))) p (.lst [.int 2147482937, .int 2147482921, .int 2147482877]) = H2 at *
  refine for_list (xs := [.int 2147482937, .int 2147482921, .int 2147482877]) (fun i σ H' => H2 = H' ∧ ∃ f a3 a4 a5, σ = [some (.ref s), some (.int (t + 1)), some (.int f), a3, a4, a5] ∧ 0 ≤ f) ⟨rfl, 0, _, _, _, rfl, by decide⟩ (fun i σ H' _ pv => ?_) (fun i x σ H' hx pv => ?_) (fun σ H' pv => ?_)
  · obtain ⟨rfl, _⟩ := pv
    rw [← hH2]
    exact SqL.of upd_same
  · obtain ⟨rfl, f, a3, a4, a5, rfl, hf⟩ := pv
    have hx : ∃ pr : Int, x = .int pr ∧ 0 < pr ∧ pr < 2147483648 := by
      match i, hx with
      | 0, h => cases h; exact ⟨_, rfl, by decide, by decide⟩
      | 1, h => cases h; exact ⟨_, rfl, by decide, by decide⟩
      | 2, h => cases h; exact ⟨_, rfl, by decide, by decide⟩
      | n + 3, h => cases h
    obtain ⟨pr, rfl, p0, p1⟩ := hx
    refine ⟨_, rfl, _, _, rfl, rfl, .inl ⟨by decide, by decide⟩, _, rfl, _, _, rfl, rfl, ⟨by decide, by decide⟩, _, _, rfl, rfl, ?_⟩
    refine ⟨_, rfl, s, _, rfl, dg_cells G2, ce, rfl, ⟨_, SqL.of G2.ce⟩, ?_⟩
    have ht0 := G.t0
    have d0 : 0 ≤ pr / 79 := Int.ediv_nonneg (by omega) (by decide)
    have d1 : pr / 79 ≤ pr := Int.ediv_le_self _ (by omega)
    refine for_list (xs := cs.map V.int) (fun j σ H' => H2 = H' ∧ ∃ b a5, σ = [some (.ref s), some (.int (t + 1)), some (.int f), some (.int pr), some (.int b), a5] ∧ 0 ≤ b ∧ b ≤ 40014 * (t + 1) + 2147483648) ⟨rfl, _, _, rfl, by omega, by omega⟩ (fun j σ H' _ pv => ?_) (fun j x σ H' hx pv => ?_) (fun σ H' pv => ?_)
    · obtain ⟨rfl, _⟩ := pv
      exact SqL.of G2.ce
    · obtain ⟨rfl, b, a5, rfl, hb, hb2⟩ := pv
      rw [List.getElem?_map] at hx
      obtain ⟨c, _, rfl⟩ := Option.map_eq_some_iff.mp hx
      refine ⟨_, rfl, _, _, rfl, rfl, .inr ⟨by decide, by decide⟩, _, rfl, _, _, rfl, rfl, _, rfl, _, _, rfl, rfl, .inl ⟨_, rfl, _, rfl, _, _, rfl, rfl, p0, ?_⟩⟩
      have e1 := Int.emod_nonneg (b * 69621 + c + (t + 1)) (Int.ne_of_gt p0)
      have e2 := Int.emod_lt_of_pos (b * 69621 + c + (t + 1)) p0
      exact ⟨rfl, _, _, rfl, e1, by omega⟩
    · obtain ⟨rfl, b, a5, rfl, hb, hb2⟩ := pv
      have hlog := blend_log ht0 ht hb hb2
      refine ⟨_, rfl, _, _, rfl, rfl, .inr ⟨by decide, by decide⟩, _, rfl, _, _, rfl, rfl, ⟨by decide, hlog⟩, .inl ⟨_, rfl, _, rfl, _, _, rfl, rfl, p0, _, _, rfl, rfl, ?_⟩⟩
      have e1 := Int.emod_nonneg (b ^ (5 : Int).toNat) (Int.ne_of_gt p0)
      exact ⟨rfl, _, _, _, _, rfl, by omega⟩
  · obtain ⟨rfl, f, a3, a4, a5, rfl, hf⟩ := pv
    exact ⟨_, rfl, q f _ hf G2.st kq (by rw [← hH2]; exact (NT.refl.upd).upd)⟩

abbrev ND : List Str := ["state", "size_here", "found"]
abbrev sD : Stmt := top 21
theorem scpD : FnScope ND ["state", "size_here"] (defScope sD) := ⟨rfl, rfl, rfl, by decide +kernel, rfl, by decide +kernel, by decide +kernel⟩
theorem ok_draw (F : FnP K "_law_draw" sD f fd) (FB : FnP K "_law_blended" sB fB fdB) (gI : mg "int" = none) (gB : mg "_law_blended" = some (.ref fB)) : FnOk P w K mg base CX0 2 f fd ["state", "size_here"] (spDr s gr ce) := by
  have GB : FnOk P w K mg base CX0 1 fB fdB ["state"] (spBl s gr ce) := ok_blended FB gI
  have bB : Binds K fdB ["state"] [] := FB.bindsN fun _ _ _ _ _ _ us hl => match us, hl with | [_], _ => rfl
  refine F.ok scpD (fun vs H Q E h => by obtain ⟨k, rfl, _⟩ := h; rfl) (fun cdv A outer s0 H vs Q E hr h => ?_)
  have hu := hu_of hr
  refine ⟨_, PSs.nox (pss_cons (ps_if (pt_cmpR op_eq (pe_dget hu (pv 0) pe_str (fun _ _ => rfl)) pe_int (nomark _))
      (pss_one (ps_dput hu (pv 0) pe_str (pe_ifExp (pt_cmpR (op_neD hr.units) (pe_dget hu (pv 0) pe_str (fun _ _ => rfl)) (pe_lst pa_nil) (nomark _))
        (pe_bm PySem.F.plainAttrs_list PySem.F.slot_list_pop PySem.F.type_list_pop mt_popAt (pe_dget hu (pv 0) pe_str (fun _ _ => rfl)) (pa_cons pe_int pa_nil))
        (pe_call GB hr rfl gB FB.kp bB .nil pass0 (pa_cons (pv 0) pa_nil))) rfl)) pss_nil)
    (pss_cons (ps_set (i := 2) scpD.nd rfl (Or.inl rfl) (pe_op op_mod (pe_callTy call_int1 rfl gI boot_int (pa_cons (pe_dget hu (pv 0) pe_str (fun _ _ => rfl)) pa_nil)) (pv 1)))
    (pss_cons (ps_dput hu (pv 0) pe_str (pe_op op_fdivW (pe_dget hu (pv 0) pe_str (fun _ _ => rfl)) (pv 1)) rfl)
    (pss_one (ps_ret (pv 2)))))), ?_⟩
  obtain ⟨k, rfl, k0, k1, ⟨hne, l, t, ns, cs, G⟩, hb, q⟩ := h
  have hL : t.toNat < LIM := bud_pos (by rw [← GoodAt.bud G]; exact hb)
  have fin : ∀ (l' t' : Int) (ns' : List Int) (H1 : Hp), GoodAt s gr ce l' t' ns' cs H1 → (∀ a o, H a = some o → a ≠ s → a ≠ gr → H1 a = some o) → NT H H1 → t ≤ t' → t' ≤ t + 1 → ∀ m : Int, 0 ≤ m → m < k → Q (.int m) (upd H1 s (.dK (stK (l' / k) t' gr ce))) := fun l' t' ns' H1 G1 fr nt h1 h2 m m0 m1 => by
    have G2 := G1.left (v := l' / k) (Int.ediv_nonneg G1.l0 (Int.le_of_lt k0))
    have ht := G.t0
    have hh := bud_step (L := LIM) (a := t.toNat) (b := t'.toNat) (by omega) (by omega)
    exact q m _ m0 m1 ⟨hne, _, _, _, _, G2⟩ (by rw [GoodAt.bud G, GoodAt.bud G2]; exact hh.1) (by rw [GoodAt.bud G, GoodAt.bud G2]; exact hh.2) (fun a o e n1 n2 => by rw [upd_ne n1]; exact fr a o e n1 n2) nt.upd
  refine ⟨_, rfl, s, .int l, rfl, dg_left G, rfl, _, rfl, ?_⟩
  by_cases hl : l = 0
  · subst hl
    refine ite_t (decide_eq_true rfl) ?_
    refine ⟨_, rfl, s, _, rfl, dg_great G, ⟨by show 0 ≤ sizeLine; exact Nat.zero_le _, fun p hp => ?_⟩⟩
    have kp : ∀ a o, H a = some o → upd H p (.lst []) a = some o := fun a o e => by rw [upd_ne (ne_of_none e hp)]; exact e
    have G1 := G.keep kp
    refine ⟨.list (ns.map PyData.int), .list [], .lst (SqL.of G1.gr) (dpI ns), .lst (SqL.of upd_same) .nil, shapedInts ns, shapedInts [], _, rfl, ?_⟩
    have eb : (!PyData.eqv (.list (ns.map PyData.int)) (.list [])) = !decide (ns = []) := by rw [eqv_nil]
    rw [eb]
    cases ns with
    | nil =>
      refine ite_f rfl ?_
      refine ⟨_, rfl, rfl, 0, t, [], cs, G1, hL, fun m H2 m0 e2 fr nt => ?_⟩
      have G2 : GoodAt s gr ce 0 (t + 1) [] cs H2 := ⟨e2, fr _ _ G1.gr G1.sg, fr _ _ G1.ce G1.sc, by decide, by have := G.t0; omega, G.n0, G.c0, G.nl, G.cl⟩
      refine ⟨_, rfl, s, _, rfl, dp_left (v := m) G2, ?_⟩
      have G3 := G2.left (v := m) m0
      exact draw_rest G3 k0 k1 fun m' h0 h1 => fin m (t + 1) [] _ G3 (fun a o e n1 n2 => by rw [upd_ne n1]; exact fr a o (kp a o e) n1) ((NT.trans (NT.refl.upd) nt).upd) (by omega) (by omega) m' h0 h1
    | cons n ns =>
      refine ite_t rfl ?_
      refine ⟨_, rfl, s, _, rfl, dg_great G1, .inl ⟨rfl, _, SqL.of G1.gr⟩, gr, _, 0, 0, .int n, rfl, rfl, G1.gr, by decide, by decide, ?_, rfl, ?_⟩
      · show seqIndex? 0 ((n :: ns).map V.int).length = some 0
        unfold seqIndex?
        simp
      · have n0 : 0 ≤ n := G.n0 n List.mem_cons_self
        have e1 : (((n :: ns).map V.int).eraseIdx 0) = ns.map V.int := rfl
        rw [e1]
        have G2 : GoodAt s gr ce 0 t ns cs (upd (upd H p (.lst [])) gr (.lst (ns.map V.int))) := ⟨by rw [upd_ne G.sg.symm]; exact G1.st, upd_same, by rw [upd_ne hne.symm]; exact G1.ce, by decide, G.t0, fun x hx => G.n0 x (List.mem_cons_of_mem _ hx), G.c0, by have := G.nl; simp at this; omega, G.cl⟩
        refine ⟨_, rfl, s, _, rfl, dp_left (v := n) G2, ?_⟩
        have G3 := G2.left (v := n) n0
        exact draw_rest G3 k0 k1 fun m' h0 h1 => fin n t ns _ G3 (fun a o e n1 n2 => by rw [upd_ne n1, upd_ne n2]; exact kp a o e) (((NT.refl.upd).upd).upd) (by omega) (by omega) m' h0 h1
  · refine ite_f (decide_eq_false fun e => hl (by cases e; rfl)) ?_
    exact draw_rest G k0 k1 fun m' h0 h1 => fin l t ns _ G (fun a o e _ _ => e) NT.refl (by omega) (by omega) m' h0 h1
abbrev sG : Stmt := top 19
theorem scG : FnScope NG ["script"] (defScope sG) := ⟨rfl, rfl, rfl, by decide +kernel, rfl, by decide +kernel, by decide +kernel⟩
def eCells : Expr := match (defBody sG).getD 1 (.Pass ⟨0, 0, 0, 0⟩) with
  | .Return (some (.Dict _ vs _)) _ => vs.getD 1 (.Constant .none 0 ⟨0, 0, 0, 0⟩)
  | _ => .Constant .none 0 ⟨0, 0, 0, 0⟩
theorem ok_begun (F : FnP K "_law_begun" sG f fd) (free : ∀ x ∈ freeNames, mg x = none) : FnOk P w K mg base CX0 1 f fd ["script"] (spBg K) := by
  refine F.ok scG (fun vs H Q E h => by obtain ⟨a, ns, rfl, _⟩ := h; rfl) (fun cdv A outer s0 H vs Q E hr h => ?_)
  obtain ⟨a, ns, rfl, hS, hl, q⟩ := h
  have fa : Facts (g0 P w K mg base H) ckG (fun _ _ => .bad) 0 := ⟨by decide +kernel, fun _ _ _ h => by simp [ckG] at h, fun _ _ _ _ h => by simp [ckG] at h, fun _ _ _ _ _ h => by simp [ckG] at h, fun _ _ h => by simp [ckG] at h, fun _ _ h => by simp [ckG] at h, free, fun h => absurd rfl h, fun _ _ h => by simp [ckG] at h, fun h => absurd rfl h⟩
  let gf : GF := { toG := g0 P w K mg base H, cl := [], q := "", lk := fun _ _ _ _ => False, lt := fun _ => none }
  have c : CtxD gf ckG (defScope sG) (fun _ _ => False) 0 (cxOf CX0 P w K mg base NG "_law_begun" (defScope sG) f cdv A outer s0 H E).nox :=
    ⟨⟨rfl, rfl, rfl, rfl, rfl, rfl, (fun e => by cases e), rfl, rfl, hr, takes0.imp fun _ _ _ _ ⟨_, _, _, h⟩ => h.elim⟩, scG.kind, PassesOwn.never, fun _ => rfl, fun _ _ h => by simp [ckG] at h⟩
  obtain ⟨t1, p1, m1⟩ := (soundS (g := gf) (wh := 0) (Z0 := noT H) (H0 := H) c fa (.asg 1 xGreat)).S ((defBody sG).getD 0 (.Pass ⟨0, 0, 0, 0⟩)) (by decide +kernel)
  obtain ⟨t2, p2, m2⟩ := (sound (g := gf) fa xCells).E _ _ _ eCells c.ok (by decide +kernel)
  refine ⟨_, PSs.nox (pss_cons p1 (pss_one (ps_ret (pe_disp (pps_cons pe_str (pv 1) (pps_cons pe_str p2 (pps_cons pe_str pe_int (pps_cons pe_str pe_int pps_nil)))) rfl rfl (fun e => by cases e) (by decide))))), ?_⟩
  have pre : Pre (g0 P w K mg base H) (noT H) H := ⟨fun _ _ e => dropT_sub e, fun _ ⟨ps, e⟩ => noT_none e, fun _ _ e => e, fun _ _ e => e⟩
  have r0 : Reps (g0 P w K mg base H) (noT H) [.ref a] [.scr ns] := .cons (.scr (noT_sq hS) hl) .nil
  have sc0 := start_cfg (g := gf) (N := NG) pre r0 (show 1 ≤ 3 by decide)
  have ea : ex (fun _ _ => .bad) 0 (.asg 1 xGreat) (startE NG [.scr ns]) = .ret (.nx [.val (.scr ns), .own ((greatL ns).map D.int), .un]) := by
    show (ev (fun _ _ => .bad) xGreat [.val (.scr ns), .un, .un] >>= _) = _
    rw [ev_great]
    rfl
  refine m1 _ (noT H) _ H _ sc0 ?_
  rw [ea]
  intro Z1 σ1 H1 c1 _ _
  obtain ⟨gr, vs, q1, q2, q3, q4, q5, q6⟩ := get_own (i := 1) c1.cfg rfl
  have e1 := q6.intsI (intsD_map _)
  subst e1
  have h1k : ∀ b o, H b = some o → H1 b = some o := fun b o e => by
    by_cases q : ∃ ps, H b = some (.tbl ps)
    · obtain ⟨ps, q⟩ := q
      have z := c1.stp.good.1 b ps q
      rw [e] at q
      cases q
      exact z
    · exact c1.stp.h b o e q
  have nb : ∀ b, H1 b = none → H b = none := fun b e => by
    rcases none_or (H := H) (a := b) with z | ⟨u, z⟩
    · exact z
    · rw [h1k _ _ z] at e; cases e
  intro p hp
  refine ⟨_, q1, m2 _ Z1 σ1 _ _ (c1.cfg.step (.newH c1.cfg.pre hp fun _ z => by cases z)) ?_⟩
  rw [ev_cells]
  intro v Z2 H2 s2 _ r2
  obtain ⟨ce, ws, rfl, h1, h2, h3, h4, h5, h6⟩ := r2
  have e2 := h6.intsI (intsD_map _)
  subst e2
  have hpc : ce ≠ p := fun e => by rw [e, upd_same] at h5; cases h5
  rw [upd_ne hpc] at h5
  have hgc : gr ≠ ce := fun e => by rw [e, h5] at q2; cases q2
  have hgp : gr ≠ p := fun e => by rw [e, hp] at q2; cases q2
  have up : ∀ b o, H1 b = some o → H2 b = some o := fun b o e => by
    by_cases q : ∃ ps, H b = some (.tbl ps)
    · obtain ⟨ps, q⟩ := q
      have z := s2.good.1 b ps q
      rw [h1k _ _ q] at e
      cases e
      exact z
    · exact s2.h b o (by rw [upd_ne (ne_of_none e hp)]; exact e) q
  have nFp : ¬ ∃ ps, H p = some (.tbl ps) := fun ⟨ps, q⟩ => by rw [h1k _ _ q] at hp; cases hp
  refine ⟨s2.h p _ upd_same nFp, stK 0 0 gr ce, rfl, (show 4 ≤ 15 by decide), ?_⟩
  rw [merge_st]
  refine q p gr ce _ hgc ⟨upd_same, by rw [upd_ne hgp]; exact up _ _ q2, by rw [upd_ne hpc]; exact h1, Int.le_refl _, Int.le_refl _, great_nn, cells_nn, Nat.le_trans (great_len ns) hl, by rw [cells_len]; exact hl⟩ (nb p hp) (c1.own0 1 _ gr rfl q1) (nb ce h5) (fun b o e => ?_) (NT.upd fun b ps e => s2.good.2 b ps e)
  have e3 := h1k b o e
  rw [upd_ne (ne_of_none e3 hp)]
  exact up b o e3
end
end LW
namespace LW
open PySem PySem.Spec PyProof.Rows L2 PV
theorem sc1 : FnScope d1.N d1.ps (defScope (top 1)) := ⟨rfl, rfl, rfl, by decide +kernel, rfl, by decide +kernel, by decide +kernel⟩
theorem bd1 {K : PySem.W.Frag} {f : Addr} {fd : FuncData} (F : FnP K "is_whole" (top 1) f fd) : Binds K fd d1.ps [] := F.bindsN fun _ _ _ _ _ _ us hl => match us, hl with | [_], _ => rfl
theorem ch1 : chkB ck1 d1.body (defScope (top 1)) (defBody (top 1)) = true := by decide +kernel
theorem sc2 : FnScope d2.N d2.ps (defScope (top 10)) := ⟨rfl, rfl, rfl, by decide +kernel, rfl, by decide +kernel, by decide +kernel⟩
theorem bd2 {K : PySem.W.Frag} {f : Addr} {fd : FuncData} (F : FnP K "is_pot" (top 10) f fd) : Binds K fd d2.ps [] := F.bindsN fun _ _ _ _ _ _ us hl => match us, hl with | [_], _ => rfl
theorem ch2 : chkB ck2 d2.body (defScope (top 10)) (defBody (top 10)) = true := by decide +kernel
theorem sc3 : FnScope d3.N d3.ps (defScope (top 11)) := ⟨rfl, rfl, rfl, by decide +kernel, rfl, by decide +kernel, by decide +kernel⟩
theorem bd3 {K : PySem.W.Frag} {f : Addr} {fd : FuncData} (F : FnP K "need_pot" (top 11) f fd) : Binds K fd d3.ps [] := F.bindsN fun _ _ _ _ _ _ us hl => match us, hl with | [_], _ => rfl
theorem ch3 : chkB ck3 d3.body (defScope (top 11)) (defBody (top 11)) = true := by decide +kernel
theorem sc4 : FnScope d4.N d4.ps (defScope (top 13)) := ⟨rfl, rfl, rfl, by decide +kernel, rfl, by decide +kernel, by decide +kernel⟩
theorem bd4 {K : PySem.W.Frag} {f : Addr} {fd : FuncData} (F : FnP K "is_whole_number" (top 13) f fd) : Binds K fd d4.ps [] := F.bindsN fun _ _ _ _ _ _ us hl => match us, hl with | [_], _ => rfl
theorem ch4 : chkB ck4 d4.body (defScope (top 13)) (defBody (top 13)) = true := by decide +kernel
theorem sc5 : FnScope d5.N d5.ps (defScope (top 14)) := ⟨rfl, rfl, rfl, by decide +kernel, rfl, by decide +kernel, by decide +kernel⟩
theorem bd5 {K : PySem.W.Frag} {f : Addr} {fd : FuncData} (F : FnP K "is_stretch" (top 14) f fd) : Binds K fd d5.ps [] := F.bindsN fun _ _ _ _ _ _ us hl => match us, hl with | [_, _], _ => rfl
theorem ch5 : chkB ck5 d5.body (defScope (top 14)) (defBody (top 14)) = true := by decide +kernel
theorem sc6 : FnScope d6.N d6.ps (defScope (top 15)) := ⟨rfl, rfl, rfl, by decide +kernel, rfl, by decide +kernel, by decide +kernel⟩
theorem bd6 {K : PySem.W.Frag} {f : Addr} {fd : FuncData} (F : FnP K "need_stretch" (top 15) f fd) : Binds K fd d6.ps [] := F.bindsN fun _ _ _ _ _ _ us hl => match us, hl with | [_, _], _ => rfl
theorem ch6 : chkB ck6 d6.body (defScope (top 15)) (defBody (top 15)) = true := by decide +kernel
theorem sc7 : FnScope d7.N d7.ps (defScope (top 16)) := ⟨rfl, rfl, rfl, by decide +kernel, rfl, by decide +kernel, by decide +kernel⟩
theorem bd7 {K : PySem.W.Frag} {f : Addr} {fd : FuncData} (F : FnP K "link" (top 16) f fd) : Binds K fd d7.ps [] := F.bindsN fun _ _ _ _ _ _ us hl => match us, hl with | [_, _], _ => rfl
theorem ch7 : chkB ck7 d7.body (defScope (top 16)) (defBody (top 16)) = true := by decide +kernel
theorem sc8 : FnScope d8.N d8.ps (defScope (top 17)) := ⟨rfl, rfl, rfl, by decide +kernel, rfl, by decide +kernel, by decide +kernel⟩
theorem bd8 {K : PySem.W.Frag} {f : Addr} {fd : FuncData} (F : FnP K "linked" (top 17) f fd) : Binds K fd d8.ps [] := F.bindsN fun _ _ _ _ _ _ us hl => match us, hl with | [_, _, _], _ => rfl
theorem ch8 : chkB ck8 d8.body (defScope (top 17)) (defBody (top 17)) = true := by decide +kernel
theorem sc9 : FnScope d9.N d9.ps (defScope (top 22)) := ⟨rfl, rfl, rfl, by decide +kernel, rfl, by decide +kernel, by decide +kernel⟩
theorem bd9 {K : PySem.W.Frag} {f : Addr} {fd : FuncData} (F : FnP K "_law_pick" (top 22) f fd) : Binds K fd d9.ps [] := F.bindsN fun _ _ _ _ _ _ us hl => match us, hl with | [_, _], _ => rfl
theorem ch9 : chkB ck9 d9.body (defScope (top 22)) (defBody (top 22)) = true := by decide +kernel
theorem sc10 : FnScope d10.N d10.ps (defScope (top 24)) := ⟨rfl, rfl, rfl, by decide +kernel, rfl, by decide +kernel, by decide +kernel⟩
theorem bd10 {K : PySem.W.Frag} {f : Addr} {fd : FuncData} (F : FnP K "_law_pt_pot" (top 24) f fd) : Binds K fd d10.ps [] := F.bindsN fun _ _ _ _ _ _ us hl => match us, hl with | [_], _ => rfl
theorem ch10 : chkB ck10 d10.body (defScope (top 24)) (defBody (top 24)) = true := by decide +kernel
theorem sc11 : FnScope d11.N d11.ps (defScope (top 25)) := ⟨rfl, rfl, rfl, by decide +kernel, rfl, by decide +kernel, by decide +kernel⟩
theorem bd11 {K : PySem.W.Frag} {f : Addr} {fd : FuncData} (F : FnP K "_law_pt_claim" (top 25) f fd) : Binds K fd d11.ps [] := F.bindsN fun _ _ _ _ _ _ us hl => match us, hl with | [_, _], _ => rfl
theorem ch11 : chkB ck11 d11.body (defScope (top 25)) (defBody (top 25)) = true := by decide +kernel
theorem sc12 : FnScope d12.N d12.ps (defScope (top 26)) := ⟨rfl, rfl, rfl, by decide +kernel, rfl, by decide +kernel, by decide +kernel⟩
theorem bd12 {K : PySem.W.Frag} {f : Addr} {fd : FuncData} (F : FnP K "_law_pt_claims" (top 26) f fd) : Binds K fd d12.ps [] := F.bindsN fun _ _ _ _ _ _ us hl => match us, hl with | [_, _, _], _ => rfl
theorem ch12 : chkB ck12 d12.body (defScope (top 26)) (defBody (top 26)) = true := by decide +kernel
theorem sc13 : FnScope d13.N d13.ps (defScope (top 27)) := ⟨rfl, rfl, rfl, by decide +kernel, rfl, by decide +kernel, by decide +kernel⟩
theorem bd13 {K : PySem.W.Frag} {f : Addr} {fd : FuncData} (F : FnP K "_law_pt_step" (top 27) f fd) : Binds K fd d13.ps [] := F.bindsN fun _ _ _ _ _ _ us hl => match us, hl with | [_, _, _], _ => rfl
theorem ch13 : chkB ck13 d13.body (defScope (top 27)) (defBody (top 27)) = true := by decide +kernel
theorem sc14 : FnScope d14.N d14.ps (defScope (top 28)) := ⟨rfl, rfl, rfl, by decide +kernel, rfl, by decide +kernel, by decide +kernel⟩
theorem bd14 {K : PySem.W.Frag} {f : Addr} {fd : FuncData} (F : FnP K "_law_pt_led" (top 28) f fd) : Binds K fd d14.ps [] := F.bindsN fun _ _ _ _ _ _ us hl => match us, hl with | [_, _, _], _ => rfl
theorem ch14 : chkB ck14 d14.body (defScope (top 28)) (defBody (top 28)) = true := by decide +kernel
theorem sc15 : FnScope d15.N d15.ps (defScope (top 29)) := ⟨rfl, rfl, rfl, by decide +kernel, rfl, by decide +kernel, by decide +kernel⟩
theorem bd15 {K : PySem.W.Frag} {f : Addr} {fd : FuncData} (F : FnP K "_law_pt_stretch" (top 29) f fd) : Binds K fd d15.ps [] := F.bindsN fun _ _ _ _ _ _ us hl => match us, hl with | [_, _], _ => rfl
theorem ch15 : chkB ck15 d15.body (defScope (top 29)) (defBody (top 29)) = true := by decide +kernel
theorem sc16 : FnScope d16.N d16.ps (defScope (top 30)) := ⟨rfl, rfl, rfl, by decide +kernel, rfl, by decide +kernel, by decide +kernel⟩
theorem bd16 {K : PySem.W.Frag} {f : Addr} {fd : FuncData} (F : FnP K "_law_pt_acts" (top 30) f fd) : Binds K fd d16.ps [] := F.bindsN fun _ _ _ _ _ _ us hl => match us, hl with | [_, _], _ => rfl
theorem ch16 : chkB ck16 d16.body (defScope (top 30)) (defBody (top 30)) = true := by decide +kernel
theorem sc17 : FnScope d17.N d17.ps (defScope (top 31)) := ⟨rfl, rfl, rfl, by decide +kernel, rfl, by decide +kernel, by decide +kernel⟩
theorem bd17 {K : PySem.W.Frag} {f : Addr} {fd : FuncData} (F : FnP K "_law_pt_lefts" (top 31) f fd) : Binds K fd d17.ps [] := F.bindsN fun _ _ _ _ _ _ us hl => match us, hl with | [_], _ => rfl
theorem ch17 : chkB ck17 d17.body (defScope (top 31)) (defBody (top 31)) = true := by decide +kernel
theorem sc18 : FnScope d18.N d18.ps (defScope (top 33)) := ⟨rfl, rfl, rfl, by decide +kernel, rfl, by decide +kernel, by decide +kernel⟩
theorem bd18 {K : PySem.W.Frag} {f : Addr} {fd : FuncData} (F : FnP K "_law_pt_no_pot" (top 33) f fd) : Binds K fd d18.ps [] := F.bindsN fun _ _ _ _ _ _ us hl => match us, hl with | [_], _ => rfl
theorem ch18 : chkB ck18 d18.body (defScope (top 33)) (defBody (top 33)) = true := by decide +kernel
theorem sc19 : FnScope d19.N d19.ps (defScope (top 34)) := ⟨rfl, rfl, rfl, by decide +kernel, rfl, by decide +kernel, by decide +kernel⟩
theorem bd19 {K : PySem.W.Frag} {f : Addr} {fd : FuncData} (F : FnP K "_law_li_drawn" (top 34) f fd) : Binds K fd d19.ps [] := F.bindsN fun _ _ _ _ _ _ us hl => match us, hl with | [_, _], _ => rfl
theorem ch19 : chkB ck19 d19.body (defScope (top 34)) (defBody (top 34)) = true := by decide +kernel
theorem sc20 : FnScope d20.N d20.ps (defScope (top 35)) := ⟨rfl, rfl, rfl, by decide +kernel, rfl, by decide +kernel, by decide +kernel⟩
theorem bd20 {K : PySem.W.Frag} {f : Addr} {fd : FuncData} (F : FnP K "_law_li_then" (top 35) f fd) : Binds K fd d20.ps [] := F.bindsN fun _ _ _ _ _ _ us hl => match us, hl with | [_, _, _], _ => rfl
theorem ch20 : chkB ck20 d20.body (defScope (top 35)) (defBody (top 35)) = true := by decide +kernel
theorem sc21 : FnScope d21.N d21.ps (defScope (top 36)) := ⟨rfl, rfl, rfl, by decide +kernel, rfl, by decide +kernel, by decide +kernel⟩
theorem bd21 {K : PySem.W.Frag} {f : Addr} {fd : FuncData} (F : FnP K "_law_li_link" (top 36) f fd) : Binds K fd d21.ps [] := F.bindsN fun _ _ _ _ _ _ us hl => match us, hl with | [_, _, _], _ => rfl
theorem ch21 : chkB ck21 d21.body (defScope (top 36)) (defBody (top 36)) = true := by decide +kernel
theorem sc22 : FnScope d22.N d22.ps (defScope (top 37)) := ⟨rfl, rfl, rfl, by decide +kernel, rfl, by decide +kernel, by decide +kernel⟩
theorem bd22 {K : PySem.W.Frag} {f : Addr} {fd : FuncData} (F : FnP K "_law_li_row" (top 37) f fd) : Binds K fd d22.ps [] := F.bindsN fun _ _ _ _ _ _ us hl => match us, hl with | [_, _, _], _ => rfl
theorem ch22 : chkB ck22 d22.body (defScope (top 37)) (defBody (top 37)) = true := by decide +kernel
theorem scL : FnScope dL.N dL.ps (defScope (top 38)) := ⟨rfl, rfl, rfl, by decide +kernel, rfl, by decide +kernel, by decide +kernel⟩
theorem chL : chkB ckL dL.body (defScope (top 38)) ((defBody (top 38)).drop 1) = true := by decide +kernel
structure Base (g : G) : Prop where
  f1 : ∃ (f : Addr) (fd : FuncData), FnP g.K "is_whole" (top 1) f fd ∧ g.mg "is_whole" = some (.ref f)
  f2 : ∃ (f : Addr) (fd : FuncData), FnP g.K "is_pot" (top 10) f fd ∧ g.mg "is_pot" = some (.ref f)
  f3 : ∃ (f : Addr) (fd : FuncData), FnP g.K "need_pot" (top 11) f fd ∧ g.mg "need_pot" = some (.ref f)
  f4 : ∃ (f : Addr) (fd : FuncData), FnP g.K "is_whole_number" (top 13) f fd ∧ g.mg "is_whole_number" = some (.ref f)
  f5 : ∃ (f : Addr) (fd : FuncData), FnP g.K "is_stretch" (top 14) f fd ∧ g.mg "is_stretch" = some (.ref f)
  f6 : ∃ (f : Addr) (fd : FuncData), FnP g.K "need_stretch" (top 15) f fd ∧ g.mg "need_stretch" = some (.ref f)
  f7 : ∃ (f : Addr) (fd : FuncData), FnP g.K "link" (top 16) f fd ∧ g.mg "link" = some (.ref f)
  f8 : ∃ (f : Addr) (fd : FuncData), FnP g.K "linked" (top 17) f fd ∧ g.mg "linked" = some (.ref f)
  f9 : ∃ (f : Addr) (fd : FuncData), FnP g.K "_law_pick" (top 22) f fd ∧ g.mg "_law_pick" = some (.ref f)
  f10 : ∃ (f : Addr) (fd : FuncData), FnP g.K "_law_pt_pot" (top 24) f fd ∧ g.mg "_law_pt_pot" = some (.ref f)
  f11 : ∃ (f : Addr) (fd : FuncData), FnP g.K "_law_pt_claim" (top 25) f fd ∧ g.mg "_law_pt_claim" = some (.ref f)
  f12 : ∃ (f : Addr) (fd : FuncData), FnP g.K "_law_pt_claims" (top 26) f fd ∧ g.mg "_law_pt_claims" = some (.ref f)
  f13 : ∃ (f : Addr) (fd : FuncData), FnP g.K "_law_pt_step" (top 27) f fd ∧ g.mg "_law_pt_step" = some (.ref f)
  f14 : ∃ (f : Addr) (fd : FuncData), FnP g.K "_law_pt_led" (top 28) f fd ∧ g.mg "_law_pt_led" = some (.ref f)
  f15 : ∃ (f : Addr) (fd : FuncData), FnP g.K "_law_pt_stretch" (top 29) f fd ∧ g.mg "_law_pt_stretch" = some (.ref f)
  f16 : ∃ (f : Addr) (fd : FuncData), FnP g.K "_law_pt_acts" (top 30) f fd ∧ g.mg "_law_pt_acts" = some (.ref f)
  f17 : ∃ (f : Addr) (fd : FuncData), FnP g.K "_law_pt_lefts" (top 31) f fd ∧ g.mg "_law_pt_lefts" = some (.ref f)
  f18 : ∃ (f : Addr) (fd : FuncData), FnP g.K "_law_pt_no_pot" (top 33) f fd ∧ g.mg "_law_pt_no_pot" = some (.ref f)
  f19 : ∃ (f : Addr) (fd : FuncData), FnP g.K "_law_li_drawn" (top 34) f fd ∧ g.mg "_law_li_drawn" = some (.ref f)
  f20 : ∃ (f : Addr) (fd : FuncData), FnP g.K "_law_li_then" (top 35) f fd ∧ g.mg "_law_li_then" = some (.ref f)
  f21 : ∃ (f : Addr) (fd : FuncData), FnP g.K "_law_li_link" (top 36) f fd ∧ g.mg "_law_li_link" = some (.ref f)
  f22 : ∃ (f : Addr) (fd : FuncData), FnP g.K "_law_li_row" (top 37) f fd ∧ g.mg "_law_li_row" = some (.ref f)
  free : ∀ x ∈ freeNames, g.mg x = none
  con : ∀ x i, (x, i) ∈ cons → ∃ t, g.mg x = some (.int i t)
  bf : ∀ x id, (x, id) ∈ bfs → g.mg x = some (.builtin id)
  cls : ∀ k x, (k, x) ∈ LW.cls → ClsE g k x
  cau : hasLam = true → CauF g nx
  exs : ∀ k x, (k, x) ∈ LW.exs → ExsF g nx k x
  fir : ltab ≠ [] → FirF g nx dues
  dr : ∀ n N, n ≠ 0 → 2 ≤ N → FnE g (callF tab WH (n + 1)) N 0 "_law_draw" 2
  dm : ∃ (f : Addr) (fd : FuncData), g.mg "_law_draw" = some (.ref f) ∧ PySem.W.keepIn g.K (.ref f) = true ∧ Binds g.K fd ["state", "size_here"] []
structure At (g : G) (n : Nat) : Prop where
  fn : ∀ k x m, (k, x, m) ∈ fns → FnE g (callF tab WH n) (4 * n) k x m
  kw : ∀ k x ks perm, (k, x, ks, perm) ∈ kws → FnK g (callF tab WH n) (4 * n) k x ks perm ∧ perm.length = ks.length
  mw : ∀ k x m ks perm, (k, x, m, ks, perm) ∈ mws → FnM g (callF tab WH n) (4 * n) k x m ks perm ∧ perm.length = m + ks.length
theorem facts {g : G} (B : Base g) {n : Nat} (A : At g n) {ck : Ck} (nd : ck.N.Nodup) (h1 : ck.fns = fns) (h2 : ck.cons = cons) (h3 : ck.kws = kws) (h4 : ck.mws = mws) (h5 : ck.bfs = bfs) (h6 : ck.nx = nx) (h7 : ck.exs = exs) (h9 : ck.ltab = ltab) (h10 : ck.dues = dues) (h8 : ck.lam ≠ none → hasLam = true) : Facts g ck (callF tab WH n) (4 * n) :=
  ⟨nd, fun k x m h => A.fn k x m (by rw [← h1]; exact h), fun k x ks pm h => A.kw k x ks pm (by rw [← h3]; exact h), fun k x m ks pm h => A.mw k x m ks pm (by rw [← h4]; exact h), fun x id h => B.bf x id (by rw [← h5]; exact h), fun x i h => B.con x i (by rw [← h2]; exact h), B.free, fun h => by rw [h6]; exact B.cau (h8 h), fun k x h => by rw [h6]; exact B.exs k x (by rw [← h7]; exact h), fun h => by rw [h6, h10]; exact B.fir (by rw [← h9]; exact h)⟩
/-- what a def is known for -/
def OkFn (g : G) (n k : Nat) (x : Str) (f : Addr) (fd : FuncData) (ps : List Str) : Prop := FnOk g.P g.w g.K g.mg g.base (L2.CX g.P g.w) (4 * n) f fd ps (spD g (callF tab WH n) k)
theorem ok_zero {g : G} {k : Nat} {x : Str} {f : Addr} {fd : FuncData} {ps : List Str} : OkFn g 0 k x f fd ps :=
  ⟨fun _ _ _ _ ⟨_, _, _, _, a⟩ => a.elim, fun _ _ _ _ _ _ _ _ _ _ _ _ _ ⟨_, _, _, _, a⟩ => a.elim⟩
theorem ok1 {g : G} (B : Base g) {n : Nat} (A : At g n) {f : Addr} {fd : FuncData} (F : FnP g.K "is_whole" (top 1) f fd) : OkFn g (n + 1) 1 "is_whole" f fd d1.ps := fn_sound (d := d1) (m := n) (n := 4 * n) (k := 0) F sc1 rfl (facts B A sc1.nd rfl rfl rfl rfl rfl rfl rfl rfl rfl (fun h => absurd rfl h)) (fun h => (by cases h)) B.cls ch1 rfl
theorem ok2 {g : G} (B : Base g) {n : Nat} (A : At g n) {f : Addr} {fd : FuncData} (F : FnP g.K "is_pot" (top 10) f fd) : OkFn g (n + 1) 2 "is_pot" f fd d2.ps := fn_sound (d := d2) (m := n) (n := 4 * n) (k := 1) F sc2 rfl (facts B A sc2.nd rfl rfl rfl rfl rfl rfl rfl rfl rfl (fun h => absurd rfl h)) (fun h => (by cases h)) B.cls ch2 rfl
theorem ok3 {g : G} (B : Base g) {n : Nat} (A : At g n) {f : Addr} {fd : FuncData} (F : FnP g.K "need_pot" (top 11) f fd) : OkFn g (n + 1) 3 "need_pot" f fd d3.ps := fn_sound (d := d3) (m := n) (n := 4 * n) (k := 2) F sc3 rfl (facts B A sc3.nd rfl rfl rfl rfl rfl rfl rfl rfl rfl (fun h => absurd rfl h)) (fun h => (by cases h)) B.cls ch3 rfl
theorem ok4 {g : G} (B : Base g) {n : Nat} (A : At g n) {f : Addr} {fd : FuncData} (F : FnP g.K "is_whole_number" (top 13) f fd) : OkFn g (n + 1) 4 "is_whole_number" f fd d4.ps := fn_sound (d := d4) (m := n) (n := 4 * n) (k := 3) F sc4 rfl (facts B A sc4.nd rfl rfl rfl rfl rfl rfl rfl rfl rfl (fun h => absurd rfl h)) (fun h => (by cases h)) B.cls ch4 rfl
theorem ok5 {g : G} (B : Base g) {n : Nat} (A : At g n) {f : Addr} {fd : FuncData} (F : FnP g.K "is_stretch" (top 14) f fd) : OkFn g (n + 1) 5 "is_stretch" f fd d5.ps := fn_sound (d := d5) (m := n) (n := 4 * n) (k := 4) F sc5 rfl (facts B A sc5.nd rfl rfl rfl rfl rfl rfl rfl rfl rfl (fun h => absurd rfl h)) (fun h => (by cases h)) B.cls ch5 rfl
theorem ok6 {g : G} (B : Base g) {n : Nat} (A : At g n) {f : Addr} {fd : FuncData} (F : FnP g.K "need_stretch" (top 15) f fd) : OkFn g (n + 1) 6 "need_stretch" f fd d6.ps := fn_sound (d := d6) (m := n) (n := 4 * n) (k := 5) F sc6 rfl (facts B A sc6.nd rfl rfl rfl rfl rfl rfl rfl rfl rfl (fun h => absurd rfl h)) (fun h => (by cases h)) B.cls ch6 rfl
theorem ok7 {g : G} (B : Base g) {n : Nat} (A : At g n) {f : Addr} {fd : FuncData} (F : FnP g.K "link" (top 16) f fd) : OkFn g (n + 1) 7 "link" f fd d7.ps := fn_sound (d := d7) (m := n) (n := 4 * n) (k := 6) F sc7 rfl (facts B A sc7.nd rfl rfl rfl rfl rfl rfl rfl rfl rfl (fun h => absurd rfl h)) (fun h => (by cases h)) B.cls ch7 rfl
theorem ok8 {g : G} (B : Base g) {n : Nat} (A : At g n) {f : Addr} {fd : FuncData} (F : FnP g.K "linked" (top 17) f fd) : OkFn g (n + 1) 8 "linked" f fd d8.ps := fn_sound (d := d8) (m := n) (n := 4 * n) (k := 7) F sc8 rfl (facts B A sc8.nd rfl rfl rfl rfl rfl rfl rfl rfl rfl (fun h => absurd rfl h)) (fun h => (by cases h)) B.cls ch8 rfl
theorem ok9 {g : G} (B : Base g) {n : Nat} (A : At g n) {f : Addr} {fd : FuncData} (F : FnP g.K "_law_pick" (top 22) f fd) : OkFn g (n + 1) 9 "_law_pick" f fd d9.ps := fn_sound (d := d9) (m := n) (n := 4 * n) (k := 8) F sc9 rfl (facts B A sc9.nd rfl rfl rfl rfl rfl rfl rfl rfl rfl (fun h => absurd rfl h)) (fun h => (by cases h)) B.cls ch9 rfl
theorem ok10 {g : G} (B : Base g) {n : Nat} (A : At g n) {f : Addr} {fd : FuncData} (F : FnP g.K "_law_pt_pot" (top 24) f fd) : OkFn g (n + 1) 10 "_law_pt_pot" f fd d10.ps := fn_sound (d := d10) (m := n) (n := 4 * n) (k := 9) F sc10 rfl (facts B A sc10.nd rfl rfl rfl rfl rfl rfl rfl rfl rfl (fun h => absurd rfl h)) (fun h => (by cases h)) B.cls ch10 rfl
theorem ok11 {g : G} (B : Base g) {n : Nat} (A : At g n) {f : Addr} {fd : FuncData} (F : FnP g.K "_law_pt_claim" (top 25) f fd) : OkFn g (n + 1) 11 "_law_pt_claim" f fd d11.ps := fn_sound (d := d11) (m := n) (n := 4 * n) (k := 10) F sc11 rfl (facts B A sc11.nd rfl rfl rfl rfl rfl rfl rfl rfl rfl (fun h => absurd rfl h)) (fun h => (by cases h)) B.cls ch11 rfl
theorem ok12 {g : G} (B : Base g) {n : Nat} (A : At g n) {f : Addr} {fd : FuncData} (F : FnP g.K "_law_pt_claims" (top 26) f fd) : OkFn g (n + 1) 12 "_law_pt_claims" f fd d12.ps := fn_sound (d := d12) (m := n) (n := 4 * n) (k := 11) F sc12 rfl (facts B A sc12.nd rfl rfl rfl rfl rfl rfl rfl rfl rfl (fun h => absurd rfl h)) (fun h => (by cases h)) B.cls ch12 rfl
theorem ok13 {g : G} (B : Base g) {n : Nat} (A : At g n) {f : Addr} {fd : FuncData} (F : FnP g.K "_law_pt_step" (top 27) f fd) : OkFn g (n + 1) 13 "_law_pt_step" f fd d13.ps := fn_sound (d := d13) (m := n) (n := 4 * n) (k := 12) F sc13 rfl (facts B A sc13.nd rfl rfl rfl rfl rfl rfl rfl rfl rfl (fun h => absurd rfl h)) (fun h => (by cases h)) B.cls ch13 rfl
theorem ok14 {g : G} (B : Base g) {n : Nat} (A : At g n) {f : Addr} {fd : FuncData} (F : FnP g.K "_law_pt_led" (top 28) f fd) : OkFn g (n + 1) 14 "_law_pt_led" f fd d14.ps := fn_sound (d := d14) (m := n) (n := 4 * n) (k := 13) F sc14 rfl (facts B A sc14.nd rfl rfl rfl rfl rfl rfl rfl rfl rfl (fun h => absurd rfl h)) (fun h => (by cases h)) B.cls ch14 rfl
theorem ok15 {g : G} (B : Base g) {n : Nat} (A : At g n) {f : Addr} {fd : FuncData} (F : FnP g.K "_law_pt_stretch" (top 29) f fd) : OkFn g (n + 1) 15 "_law_pt_stretch" f fd d15.ps := fn_sound (d := d15) (m := n) (n := 4 * n) (k := 14) F sc15 rfl (facts B A sc15.nd rfl rfl rfl rfl rfl rfl rfl rfl rfl (fun h => absurd rfl h)) (fun h => (by cases h)) B.cls ch15 rfl
theorem ok16 {g : G} (B : Base g) {n : Nat} (A : At g n) {f : Addr} {fd : FuncData} (F : FnP g.K "_law_pt_acts" (top 30) f fd) : OkFn g (n + 1) 16 "_law_pt_acts" f fd d16.ps := fn_sound (d := d16) (m := n) (n := 4 * n) (k := 15) F sc16 rfl (facts B A sc16.nd rfl rfl rfl rfl rfl rfl rfl rfl rfl (fun h => absurd rfl h)) (fun h => (by cases h)) B.cls ch16 rfl
theorem ok17 {g : G} (B : Base g) {n : Nat} (A : At g n) {f : Addr} {fd : FuncData} (F : FnP g.K "_law_pt_lefts" (top 31) f fd) : OkFn g (n + 1) 17 "_law_pt_lefts" f fd d17.ps := fn_sound (d := d17) (m := n) (n := 4 * n) (k := 16) F sc17 rfl (facts B A sc17.nd rfl rfl rfl rfl rfl rfl rfl rfl rfl (fun h => absurd rfl h)) (fun h => (by cases h)) B.cls ch17 rfl
theorem ok18 {g : G} (B : Base g) {n : Nat} (A : At g n) {f : Addr} {fd : FuncData} (F : FnP g.K "_law_pt_no_pot" (top 33) f fd) : OkFn g (n + 1) 18 "_law_pt_no_pot" f fd d18.ps := fn_sound (d := d18) (m := n) (n := 4 * n) (k := 17) F sc18 rfl (facts B A sc18.nd rfl rfl rfl rfl rfl rfl rfl rfl rfl (fun h => absurd rfl h)) (fun h => (by cases h)) B.cls ch18 rfl
theorem ok19 {g : G} (B : Base g) {n : Nat} (A : At g n) {f : Addr} {fd : FuncData} (F : FnP g.K "_law_li_drawn" (top 34) f fd) : OkFn g (n + 1) 19 "_law_li_drawn" f fd d19.ps := fn_sound (d := d19) (m := n) (n := 4 * n) (k := 18) F sc19 rfl (facts B A sc19.nd rfl rfl rfl rfl rfl rfl rfl rfl rfl (fun h => absurd rfl h)) (fun h => (by cases h)) B.cls ch19 rfl
theorem ok20 {g : G} (B : Base g) {n : Nat} (A : At g n) {f : Addr} {fd : FuncData} (F : FnP g.K "_law_li_then" (top 35) f fd) : OkFn g (n + 1) 20 "_law_li_then" f fd d20.ps := fn_sound (d := d20) (m := n) (n := 4 * n) (k := 19) F sc20 rfl (facts B A sc20.nd rfl rfl rfl rfl rfl rfl rfl rfl rfl (fun h => absurd rfl h)) (fun h => (by cases h)) B.cls ch20 rfl
theorem ok21 {g : G} (B : Base g) {n : Nat} (A : At g n) {f : Addr} {fd : FuncData} (F : FnP g.K "_law_li_link" (top 36) f fd) : OkFn g (n + 1) 21 "_law_li_link" f fd d21.ps := fn_sound (d := d21) (m := n) (n := 4 * n) (k := 20) F sc21 rfl (facts B A sc21.nd rfl rfl rfl rfl rfl rfl rfl rfl rfl (fun h => absurd rfl h)) (fun h => (by cases h)) B.cls ch21 rfl
theorem ok22 {g : G} (B : Base g) {n : Nat} (A : At g n) {f : Addr} {fd : FuncData} (F : FnP g.K "_law_li_row" (top 37) f fd) : OkFn g (n + 1) 22 "_law_li_row" f fd d22.ps := fn_sound (d := d22) (m := n) (n := 4 * n) (k := 21) F sc22 rfl (facts B A sc22.nd rfl rfl rfl rfl rfl rfl rfl rfl rfl (fun h => absurd rfl h)) (fun h => (by cases h)) B.cls ch22 rfl
theorem at_ {g : G} (B : Base g) : ∀ n, At g n
  | n => by
    have ih : n = 0 ∨ ∃ m, n = m + 1 ∧ At g m := by
      cases n with
      | zero => exact .inl rfl
      | succ m => exact .inr ⟨m, rfl, at_ B m⟩
    obtain ⟨f1, fd1, F1, g1⟩ := B.f1
    have o1 : OkFn g n 1 "is_whole" f1 fd1 d1.ps := by
      rcases ih with rfl | ⟨m, rfl, A⟩
      · exact ok_zero
      · exact ok1 B A F1
    obtain ⟨f2, fd2, F2, g2⟩ := B.f2
    have o2 : OkFn g n 2 "is_pot" f2 fd2 d2.ps := by
      rcases ih with rfl | ⟨m, rfl, A⟩
      · exact ok_zero
      · exact ok2 B A F2
    obtain ⟨f3, fd3, F3, g3⟩ := B.f3
    have o3 : OkFn g n 3 "need_pot" f3 fd3 d3.ps := by
      rcases ih with rfl | ⟨m, rfl, A⟩
      · exact ok_zero
      · exact ok3 B A F3
    obtain ⟨f4, fd4, F4, g4⟩ := B.f4
    have o4 : OkFn g n 4 "is_whole_number" f4 fd4 d4.ps := by
      rcases ih with rfl | ⟨m, rfl, A⟩
      · exact ok_zero
      · exact ok4 B A F4
    obtain ⟨f5, fd5, F5, g5⟩ := B.f5
    have o5 : OkFn g n 5 "is_stretch" f5 fd5 d5.ps := by
      rcases ih with rfl | ⟨m, rfl, A⟩
      · exact ok_zero
      · exact ok5 B A F5
    obtain ⟨f6, fd6, F6, g6⟩ := B.f6
    have o6 : OkFn g n 6 "need_stretch" f6 fd6 d6.ps := by
      rcases ih with rfl | ⟨m, rfl, A⟩
      · exact ok_zero
      · exact ok6 B A F6
    obtain ⟨f7, fd7, F7, g7⟩ := B.f7
    have o7 : OkFn g n 7 "link" f7 fd7 d7.ps := by
      rcases ih with rfl | ⟨m, rfl, A⟩
      · exact ok_zero
      · exact ok7 B A F7
    obtain ⟨f8, fd8, F8, g8⟩ := B.f8
    have o8 : OkFn g n 8 "linked" f8 fd8 d8.ps := by
      rcases ih with rfl | ⟨m, rfl, A⟩
      · exact ok_zero
      · exact ok8 B A F8
    obtain ⟨f9, fd9, F9, g9⟩ := B.f9
    have o9 : OkFn g n 9 "_law_pick" f9 fd9 d9.ps := by
      rcases ih with rfl | ⟨m, rfl, A⟩
      · exact ok_zero
      · exact ok9 B A F9
    obtain ⟨f10, fd10, F10, g10⟩ := B.f10
    have o10 : OkFn g n 10 "_law_pt_pot" f10 fd10 d10.ps := by
      rcases ih with rfl | ⟨m, rfl, A⟩
      · exact ok_zero
      · exact ok10 B A F10
    obtain ⟨f11, fd11, F11, g11⟩ := B.f11
    have o11 : OkFn g n 11 "_law_pt_claim" f11 fd11 d11.ps := by
      rcases ih with rfl | ⟨m, rfl, A⟩
      · exact ok_zero
      · exact ok11 B A F11
    obtain ⟨f12, fd12, F12, g12⟩ := B.f12
    have o12 : OkFn g n 12 "_law_pt_claims" f12 fd12 d12.ps := by
      rcases ih with rfl | ⟨m, rfl, A⟩
      · exact ok_zero
      · exact ok12 B A F12
    obtain ⟨f13, fd13, F13, g13⟩ := B.f13
    have o13 : OkFn g n 13 "_law_pt_step" f13 fd13 d13.ps := by
      rcases ih with rfl | ⟨m, rfl, A⟩
      · exact ok_zero
      · exact ok13 B A F13
    obtain ⟨f14, fd14, F14, g14⟩ := B.f14
    have o14 : OkFn g n 14 "_law_pt_led" f14 fd14 d14.ps := by
      rcases ih with rfl | ⟨m, rfl, A⟩
      · exact ok_zero
      · exact ok14 B A F14
    obtain ⟨f15, fd15, F15, g15⟩ := B.f15
    have o15 : OkFn g n 15 "_law_pt_stretch" f15 fd15 d15.ps := by
      rcases ih with rfl | ⟨m, rfl, A⟩
      · exact ok_zero
      · exact ok15 B A F15
    obtain ⟨f16, fd16, F16, g16⟩ := B.f16
    have o16 : OkFn g n 16 "_law_pt_acts" f16 fd16 d16.ps := by
      rcases ih with rfl | ⟨m, rfl, A⟩
      · exact ok_zero
      · exact ok16 B A F16
    obtain ⟨f17, fd17, F17, g17⟩ := B.f17
    have o17 : OkFn g n 17 "_law_pt_lefts" f17 fd17 d17.ps := by
      rcases ih with rfl | ⟨m, rfl, A⟩
      · exact ok_zero
      · exact ok17 B A F17
    obtain ⟨f18, fd18, F18, g18⟩ := B.f18
    have o18 : OkFn g n 18 "_law_pt_no_pot" f18 fd18 d18.ps := by
      rcases ih with rfl | ⟨m, rfl, A⟩
      · exact ok_zero
      · exact ok18 B A F18
    obtain ⟨f19, fd19, F19, g19⟩ := B.f19
    have o19 : OkFn g n 19 "_law_li_drawn" f19 fd19 d19.ps := by
      rcases ih with rfl | ⟨m, rfl, A⟩
      · exact ok_zero
      · exact ok19 B A F19
    obtain ⟨f20, fd20, F20, g20⟩ := B.f20
    have o20 : OkFn g n 20 "_law_li_then" f20 fd20 d20.ps := by
      rcases ih with rfl | ⟨m, rfl, A⟩
      · exact ok_zero
      · exact ok20 B A F20
    obtain ⟨f21, fd21, F21, g21⟩ := B.f21
    have o21 : OkFn g n 21 "_law_li_link" f21 fd21 d21.ps := by
      rcases ih with rfl | ⟨m, rfl, A⟩
      · exact ok_zero
      · exact ok21 B A F21
    obtain ⟨f22, fd22, F22, g22⟩ := B.f22
    have o22 : OkFn g n 22 "_law_li_row" f22 fd22 d22.ps := by
      rcases ih with rfl | ⟨m, rfl, A⟩
      · exact ok_zero
      · exact ok22 B A F22
    constructor
    · intro k x m h
      simp only [fns, List.mem_cons, List.not_mem_nil, or_false, Prod.mk.injEq] at h
      rcases h with ⟨rfl, rfl, rfl⟩ | ⟨rfl, rfl, rfl⟩ | ⟨rfl, rfl, rfl⟩ | ⟨rfl, rfl, rfl⟩ | ⟨rfl, rfl, rfl⟩ | ⟨rfl, rfl, rfl⟩ | ⟨rfl, rfl, rfl⟩ | ⟨rfl, rfl, rfl⟩ | ⟨rfl, rfl, rfl⟩ | ⟨rfl, rfl, rfl⟩ | ⟨rfl, rfl, rfl⟩ | ⟨rfl, rfl, rfl⟩ | ⟨rfl, rfl, rfl⟩ | ⟨rfl, rfl, rfl⟩ | ⟨rfl, rfl, rfl⟩ | ⟨rfl, rfl, rfl⟩ | ⟨rfl, rfl, rfl⟩ | ⟨rfl, rfl, rfl⟩ | ⟨rfl, rfl, rfl⟩ | ⟨rfl, rfl, rfl⟩ | ⟨rfl, rfl, rfl⟩ | ⟨rfl, rfl, rfl⟩ | ⟨rfl, rfl, rfl⟩
      · rcases ih with rfl | ⟨m, rfl, A⟩
        · obtain ⟨f, fd, h1, h2, h3⟩ := B.dm
          exact ⟨f, fd, _, h1, h2, h3, rfl, ok_zero (x := "_law_draw")⟩
        · cases m with
          | zero =>
            obtain ⟨f, fd, h1, h2, h3⟩ := B.dm
            exact ⟨f, fd, _, h1, h2, h3, rfl, ⟨fun _ _ _ _ ⟨_, _, _, _, a⟩ => a.elim, fun _ _ _ _ _ _ _ _ _ _ _ _ _ ⟨_, _, _, _, a⟩ => a.elim⟩⟩
          | succ m => exact B.dr (m + 1) _ (Nat.succ_ne_zero m) (by omega)
      · exact ⟨f1, fd1, d1.ps, g1, F1.kp, bd1 F1, rfl, o1⟩
      · exact ⟨f2, fd2, d2.ps, g2, F2.kp, bd2 F2, rfl, o2⟩
      · exact ⟨f3, fd3, d3.ps, g3, F3.kp, bd3 F3, rfl, o3⟩
      · exact ⟨f4, fd4, d4.ps, g4, F4.kp, bd4 F4, rfl, o4⟩
      · exact ⟨f5, fd5, d5.ps, g5, F5.kp, bd5 F5, rfl, o5⟩
      · exact ⟨f6, fd6, d6.ps, g6, F6.kp, bd6 F6, rfl, o6⟩
      · exact ⟨f7, fd7, d7.ps, g7, F7.kp, bd7 F7, rfl, o7⟩
      · exact ⟨f8, fd8, d8.ps, g8, F8.kp, bd8 F8, rfl, o8⟩
      · exact ⟨f9, fd9, d9.ps, g9, F9.kp, bd9 F9, rfl, o9⟩
      · exact ⟨f10, fd10, d10.ps, g10, F10.kp, bd10 F10, rfl, o10⟩
      · exact ⟨f11, fd11, d11.ps, g11, F11.kp, bd11 F11, rfl, o11⟩
      · exact ⟨f12, fd12, d12.ps, g12, F12.kp, bd12 F12, rfl, o12⟩
      · exact ⟨f13, fd13, d13.ps, g13, F13.kp, bd13 F13, rfl, o13⟩
      · exact ⟨f14, fd14, d14.ps, g14, F14.kp, bd14 F14, rfl, o14⟩
      · exact ⟨f15, fd15, d15.ps, g15, F15.kp, bd15 F15, rfl, o15⟩
      · exact ⟨f16, fd16, d16.ps, g16, F16.kp, bd16 F16, rfl, o16⟩
      · exact ⟨f17, fd17, d17.ps, g17, F17.kp, bd17 F17, rfl, o17⟩
      · exact ⟨f18, fd18, d18.ps, g18, F18.kp, bd18 F18, rfl, o18⟩
      · exact ⟨f19, fd19, d19.ps, g19, F19.kp, bd19 F19, rfl, o19⟩
      · exact ⟨f20, fd20, d20.ps, g20, F20.kp, bd20 F20, rfl, o20⟩
      · exact ⟨f21, fd21, d21.ps, g21, F21.kp, bd21 F21, rfl, o21⟩
      · exact ⟨f22, fd22, d22.ps, g22, F22.kp, bd22 F22, rfl, o22⟩
    · intro k x ks pm h
      simp only [kws, List.mem_cons, List.not_mem_nil, or_false, Prod.mk.injEq] at h
      rcases h with ⟨rfl, rfl, rfl, rfl⟩
      · exact ⟨⟨f8, fd8, d8.ps, g8, F8.kp, o8, bindsK F8 (fun _ _ _ _ _ _ ws ys hl hy => match ws, hl, hy with | [a0, a1, a2], _, hy => by cases hy; rfl)⟩, rfl⟩
    · intro k x m ks pm h
      simp [mws] at h
theorem isFirst : IsFirst (defBody (top 32)) := .mk
end LW
end
section
set_option maxHeartbeats 4000000
namespace LW
open PySem PySem.Spec PyProof.Rows L2 PV
def dd (x : Str) (i : Nat) : He.DefD := ⟨(x, none), x, x, defArgs (top i), defBody (top i), defScope (top i), [], []⟩
def fn : List He.DefD := [dd "is_whole" 1, dd "is_pot" 10, dd "need_pot" 11, dd "is_whole_number" 13, dd "is_stretch" 14, dd "need_stretch" 15, dd "link" 16, dd "linked" 17, dd "_law_begun" 19, dd "_law_blended" 20, dd "_law_draw" 21, dd "_law_pick" 22, dd "_law_caught" 23, dd "_law_pt_pot" 24, dd "_law_pt_claim" 25, dd "_law_pt_claims" 26, dd "_law_pt_step" 27, dd "_law_pt_led" 28, dd "_law_pt_stretch" 29, dd "_law_pt_acts" 30, dd "_law_pt_lefts" 31, dd "_law_pt_first_errors" 32, dd "_law_pt_no_pot" 33, dd "_law_li_drawn" 34, dd "_law_li_then" 35, dd "_law_li_link" 36, dd "_law_li_row" 37, dd "law" 38]
def fa0 : List He.Fa := [.glo "is_whole", .glo "is_pot", .glo "need_pot", .glo "is_whole_number", .glo "is_stretch", .glo "need_stretch", .glo "link", .glo "linked", .glo "_law_begun", .glo "_law_blended", .glo "_law_draw", .glo "_law_pick", .glo "_law_caught", .glo "_law_pt_pot", .glo "_law_pt_claim", .glo "_law_pt_claims", .glo "_law_pt_step", .glo "_law_pt_led", .glo "_law_pt_stretch", .glo "_law_pt_acts", .glo "_law_pt_lefts", .glo "_law_pt_first_errors", .glo "_law_pt_no_pot", .glo "_law_li_drawn", .glo "_law_li_then", .glo "_law_li_link", .glo "_law_li_row", .glo "law", .free "abs", .free "max"]
def fa1 : List He.Fa := [.free "min", .free "len", .free "sum", .free "all", .free "any", .free "sorted", .free "list", .free "tuple", .free "int", .free "bool", .free "str", .free "isinstance", .free "range", .free "zip", .free "enumerate", .int "MOST_POT" 1000000000000000, .exc "HoweverError", .exc "BadClaims", .exc "BadLeft", .exc "BadPot", .exc "BadStretch", .glo "HoweverError", .glo "BadClaims", .glo "BadLeft", .glo "BadPot", .glo "BadStretch"]
def fa : List He.Fa := fa0 ++ fa1
def loose0 : List PySem.Str := ["is_whole", "is_pot", "need_pot", "is_whole_number", "is_stretch", "need_stretch", "link", "linked", "_law_begun", "_law_blended", "_law_draw", "_law_pick", "_law_caught", "_law_pt_pot", "_law_pt_claim", "_law_pt_claims", "_law_pt_step", "_law_pt_led", "_law_pt_stretch", "_law_pt_acts", "_law_pt_lefts", "_law_pt_first_errors", "_law_pt_no_pot", "_law_li_drawn", "_law_li_then", "_law_li_link", "_law_li_row", "MOST_POT", "HoweverError", "BadClaims"]
def loose1 : List PySem.Str := ["BadLeft", "BadPot", "BadStretch"]
def loose : List PySem.Str := loose0 ++ loose1
abbrev R : PySem.W.OpenRow := PySem.W.OpenLaw.row PySem.Challenge.rw_samehowever_k51_linked
def tf : List He.Defn := [("law", none)]
def cadK (K : PySem.W.Frag) (k : Nat) : Addr := match cls.lookup k with
  | some x => He.ga K x
  | none => 0
def exB (K : PySem.W.Frag) : Bool := (bfs.all fun p => He.eqO (PySem.W.nsIn K mainGlobals p.1) (some (some (.builtin p.2)))) && (exsB K (cadK K) nx (exs.map (·.1)) && (cauB K (cadK K) nx (He.ga K "HoweverError") && decide ((tf.map fun p => (He.cT K p).2).Nodup)))
abbrev hk : PySem.W.Hook := He.hookX 4 fa fn [] tf exB
def ob (s : PySem.W.SharedT) : He.AlX := He.obsX 4 fa fn [] tf exB (HandSHeadRun.getT s)
theorem ob_eq (s : PySem.W.SharedT) : ob s = hk.obs s.abs := He.obsX_eq (HandSHeadRun.getT_eq s)
theorem run (w : World) : HandSHeadRun.RunEq R (PySem.W.view R.prog [38]) hk ob 8000 loose w := by
  intro os
  kernel_rfl
theorem base_of {P : Program} {w : World} {K : PySem.W.Frag} {h : Heap} {mg : Str → Option Value} (X : K.In h) (G : h.Ns mainGlobals mg) (cx : He.SaysX fa fn [] tf exB w h K) (base : Heap) (TB : ∀ p ∈ tf.map (He.cT K), LamX.TabB base mg p.1 p.2) (Hs : Hp) (s gr ce : Addr) : Base (gD P w K mg base (cadK K) (TK K tf) Hs s gr ce) := by
  have c := cx.t.d
  obtain ⟨x1, x2⟩ := He.ba cx.more
  obtain ⟨x2, x3⟩ := He.ba x2
  obtain ⟨x3, x4⟩ := He.ba x3
  have x4 := of_decide_eq_true x4
  obtain ⟨e0, E0⟩ := c.def_ 0 (d := dd "is_whole" 1) rfl
  have m0 := He.glo_ok X G (c.fact 0 (f := .glo "is_whole") rfl)
  obtain ⟨e1, E1⟩ := c.def_ 1 (d := dd "is_pot" 10) rfl
  have m1 := He.glo_ok X G (c.fact 1 (f := .glo "is_pot") rfl)
  obtain ⟨e2, E2⟩ := c.def_ 2 (d := dd "need_pot" 11) rfl
  have m2 := He.glo_ok X G (c.fact 2 (f := .glo "need_pot") rfl)
  obtain ⟨e3, E3⟩ := c.def_ 3 (d := dd "is_whole_number" 13) rfl
  have m3 := He.glo_ok X G (c.fact 3 (f := .glo "is_whole_number") rfl)
  obtain ⟨e4, E4⟩ := c.def_ 4 (d := dd "is_stretch" 14) rfl
  have m4 := He.glo_ok X G (c.fact 4 (f := .glo "is_stretch") rfl)
  obtain ⟨e5, E5⟩ := c.def_ 5 (d := dd "need_stretch" 15) rfl
  have m5 := He.glo_ok X G (c.fact 5 (f := .glo "need_stretch") rfl)
  obtain ⟨e6, E6⟩ := c.def_ 6 (d := dd "link" 16) rfl
  have m6 := He.glo_ok X G (c.fact 6 (f := .glo "link") rfl)
  obtain ⟨e7, E7⟩ := c.def_ 7 (d := dd "linked" 17) rfl
  have m7 := He.glo_ok X G (c.fact 7 (f := .glo "linked") rfl)
  obtain ⟨e9, E9⟩ := c.def_ 9 (d := dd "_law_blended" 20) rfl
  have m9 := He.glo_ok X G (c.fact 9 (f := .glo "_law_blended") rfl)
  obtain ⟨e10, E10⟩ := c.def_ 10 (d := dd "_law_draw" 21) rfl
  have m10 := He.glo_ok X G (c.fact 10 (f := .glo "_law_draw") rfl)
  obtain ⟨e11, E11⟩ := c.def_ 11 (d := dd "_law_pick" 22) rfl
  have m11 := He.glo_ok X G (c.fact 11 (f := .glo "_law_pick") rfl)
  obtain ⟨e12, E12⟩ := c.def_ 12 (d := dd "_law_caught" 23) rfl
  have m12 := He.glo_ok X G (c.fact 12 (f := .glo "_law_caught") rfl)
  obtain ⟨e13, E13⟩ := c.def_ 13 (d := dd "_law_pt_pot" 24) rfl
  have m13 := He.glo_ok X G (c.fact 13 (f := .glo "_law_pt_pot") rfl)
  obtain ⟨e14, E14⟩ := c.def_ 14 (d := dd "_law_pt_claim" 25) rfl
  have m14 := He.glo_ok X G (c.fact 14 (f := .glo "_law_pt_claim") rfl)
  obtain ⟨e15, E15⟩ := c.def_ 15 (d := dd "_law_pt_claims" 26) rfl
  have m15 := He.glo_ok X G (c.fact 15 (f := .glo "_law_pt_claims") rfl)
  obtain ⟨e16, E16⟩ := c.def_ 16 (d := dd "_law_pt_step" 27) rfl
  have m16 := He.glo_ok X G (c.fact 16 (f := .glo "_law_pt_step") rfl)
  obtain ⟨e17, E17⟩ := c.def_ 17 (d := dd "_law_pt_led" 28) rfl
  have m17 := He.glo_ok X G (c.fact 17 (f := .glo "_law_pt_led") rfl)
  obtain ⟨e18, E18⟩ := c.def_ 18 (d := dd "_law_pt_stretch" 29) rfl
  have m18 := He.glo_ok X G (c.fact 18 (f := .glo "_law_pt_stretch") rfl)
  obtain ⟨e19, E19⟩ := c.def_ 19 (d := dd "_law_pt_acts" 30) rfl
  have m19 := He.glo_ok X G (c.fact 19 (f := .glo "_law_pt_acts") rfl)
  obtain ⟨e20, E20⟩ := c.def_ 20 (d := dd "_law_pt_lefts" 31) rfl
  have m20 := He.glo_ok X G (c.fact 20 (f := .glo "_law_pt_lefts") rfl)
  obtain ⟨e21, E21⟩ := c.def_ 21 (d := dd "_law_pt_first_errors" 32) rfl
  have m21 := He.glo_ok X G (c.fact 21 (f := .glo "_law_pt_first_errors") rfl)
  obtain ⟨e22, E22⟩ := c.def_ 22 (d := dd "_law_pt_no_pot" 33) rfl
  have m22 := He.glo_ok X G (c.fact 22 (f := .glo "_law_pt_no_pot") rfl)
  obtain ⟨e23, E23⟩ := c.def_ 23 (d := dd "_law_li_drawn" 34) rfl
  have m23 := He.glo_ok X G (c.fact 23 (f := .glo "_law_li_drawn") rfl)
  obtain ⟨e24, E24⟩ := c.def_ 24 (d := dd "_law_li_then" 35) rfl
  have m24 := He.glo_ok X G (c.fact 24 (f := .glo "_law_li_then") rfl)
  obtain ⟨e25, E25⟩ := c.def_ 25 (d := dd "_law_li_link" 36) rfl
  have m25 := He.glo_ok X G (c.fact 25 (f := .glo "_law_li_link") rfl)
  obtain ⟨e26, E26⟩ := c.def_ 26 (d := dd "_law_li_row" 37) rfl
  have m26 := He.glo_ok X G (c.fact 26 (f := .glo "_law_li_row") rfl)
  have fr : ∀ x ∈ freeNames, mg x = none := by
    intro x hx
    simp only [freeNames, List.mem_cons, List.not_mem_nil, or_false] at hx
    rcases hx with rfl | rfl | rfl | rfl | rfl | rfl | rfl | rfl | rfl | rfl | rfl | rfl | rfl | rfl | rfl | rfl | rfl
    · exact He.free_ok X G (c.fact 28 (f := .free "abs") rfl)
    · exact He.free_ok X G (c.fact 29 (f := .free "max") rfl)
    · exact He.free_ok X G (c.fact 30 (f := .free "min") rfl)
    · exact He.free_ok X G (c.fact 31 (f := .free "len") rfl)
    · exact He.free_ok X G (c.fact 32 (f := .free "sum") rfl)
    · exact He.free_ok X G (c.fact 33 (f := .free "all") rfl)
    · exact He.free_ok X G (c.fact 34 (f := .free "any") rfl)
    · exact He.free_ok X G (c.fact 35 (f := .free "sorted") rfl)
    · exact He.free_ok X G (c.fact 36 (f := .free "list") rfl)
    · exact He.free_ok X G (c.fact 37 (f := .free "tuple") rfl)
    · exact He.free_ok X G (c.fact 38 (f := .free "int") rfl)
    · exact He.free_ok X G (c.fact 39 (f := .free "bool") rfl)
    · exact He.free_ok X G (c.fact 40 (f := .free "str") rfl)
    · exact He.free_ok X G (c.fact 41 (f := .free "isinstance") rfl)
    · exact He.free_ok X G (c.fact 42 (f := .free "range") rfl)
    · exact He.free_ok X G (c.fact 43 (f := .free "zip") rfl)
    · exact He.free_ok X G (c.fact 44 (f := .free "enumerate") rfl)
  have OD := ok_draw (P := P) (w := w) (mg := mg) (base := base) (s := s) (gr := gr) (ce := ce) E10 E9 (fr "int" (by decide +kernel)) m9
  have bD : Binds K e10 ["state", "size_here"] [] := E10.bindsN fun _ _ _ _ _ _ us hl => match us, hl with | [_, _], _ => rfl
  have mH : mg "HoweverError" = some (.ref (He.ga K "HoweverError")) := He.glo_ok X G (c.fact 51 (f := .glo "HoweverError") rfl)
  have bC : Binds K e12 ["work"] [] := E12.bindsN fun _ _ _ _ _ _ us hl => match us, hl with | [_], _ => rfl
  have bF : Binds K e21 ["works", "stages"] [] := E21.bindsN fun _ _ _ _ _ _ us hl => match us, hl with | [_, _], _ => rfl
  refine ⟨⟨_, _, E0, m0⟩, ⟨_, _, E1, m1⟩, ⟨_, _, E2, m2⟩, ⟨_, _, E3, m3⟩, ⟨_, _, E4, m4⟩, ⟨_, _, E5, m5⟩, ⟨_, _, E6, m6⟩, ⟨_, _, E7, m7⟩, ⟨_, _, E11, m11⟩, ⟨_, _, E13, m13⟩, ⟨_, _, E14, m14⟩, ⟨_, _, E15, m15⟩, ⟨_, _, E16, m16⟩, ⟨_, _, E17, m17⟩, ⟨_, _, E18, m18⟩, ⟨_, _, E19, m19⟩, ⟨_, _, E20, m20⟩, ⟨_, _, E22, m22⟩, ⟨_, _, E23, m23⟩, ⟨_, _, E24, m24⟩, ⟨_, _, E25, m25⟩, ⟨_, _, E26, m26⟩, fr, fun x i hx => ?_, fun x id hx => PySem.W.mg_of X G (He.eqO_ok (List.all_eq_true.mp x1 _ hx)), fun k x hx => ?_, fun _ => cauF_of (st := top 23) E12 m12 rfl ⟨rfl, rfl, rfl, by decide +kernel, rfl, by decide +kernel, by decide +kernel⟩ bC rfl rfl rfl (Or.inl rfl) mH x3, fun k x hx => ?_, fun _ => firF_of (st := top 32) E21 m21 isFirst ⟨rfl, rfl, rfl, by decide +kernel, rfl, by decide +kernel, by decide +kernel⟩ bF (by decide +kernel) (by decide +kernel) (exsB_ok x2 (by decide +kernel) (He.glo_ok X G (c.fact 54 (f := .glo "BadPot") rfl))) (exsB_ok x2 (by decide +kernel) (He.glo_ok X G (c.fact 53 (f := .glo "BadLeft") rfl))) (exsB_ok x2 (by decide +kernel) (He.glo_ok X G (c.fact 52 (f := .glo "BadClaims") rfl))) (exsB_ok x2 (by decide +kernel) (He.glo_ok X G (c.fact 55 (f := .glo "BadStretch") rfl))), fun n N hn hN => fne_draw hn hN OD m10 E10.kp bD, ⟨_, _, m10, E10.kp, bD⟩⟩
  · simp only [cons, List.mem_cons, List.not_mem_nil, or_false, Prod.mk.injEq] at hx
    rcases hx with ⟨rfl, rfl⟩
    · exact He.int_ok X G (c.fact 45 (f := .int "MOST_POT" 1000000000000000) rfl)
  · simp only [LW.cls, List.mem_cons, List.not_mem_nil, or_false, Prod.mk.injEq] at hx
    rcases hx with ⟨rfl, rfl⟩ | ⟨rfl, rfl⟩ | ⟨rfl, rfl⟩ | ⟨rfl, rfl⟩ | ⟨rfl, rfl⟩
    · obtain ⟨c1, c2, c3, c4⟩ := He.exc_ok (c.fact 46 (f := .exc "HoweverError") rfl)
      exact ⟨He.glo_ok X G (c.fact 51 (f := .glo "HoweverError") rfl), c2, c1, c3, c4⟩
    · obtain ⟨c1, c2, c3, c4⟩ := He.exc_ok (c.fact 47 (f := .exc "BadClaims") rfl)
      exact ⟨He.glo_ok X G (c.fact 52 (f := .glo "BadClaims") rfl), c2, c1, c3, c4⟩
    · obtain ⟨c1, c2, c3, c4⟩ := He.exc_ok (c.fact 48 (f := .exc "BadLeft") rfl)
      exact ⟨He.glo_ok X G (c.fact 53 (f := .glo "BadLeft") rfl), c2, c1, c3, c4⟩
    · obtain ⟨c1, c2, c3, c4⟩ := He.exc_ok (c.fact 49 (f := .exc "BadPot") rfl)
      exact ⟨He.glo_ok X G (c.fact 54 (f := .glo "BadPot") rfl), c2, c1, c3, c4⟩
    · obtain ⟨c1, c2, c3, c4⟩ := He.exc_ok (c.fact 50 (f := .exc "BadStretch") rfl)
      exact ⟨He.glo_ok X G (c.fact 55 (f := .glo "BadStretch") rfl), c2, c1, c3, c4⟩
  · simp only [LW.exs, List.mem_cons, List.not_mem_nil, or_false, Prod.mk.injEq] at hx
    rcases hx with ⟨rfl, rfl⟩ | ⟨rfl, rfl⟩ | ⟨rfl, rfl⟩ | ⟨rfl, rfl⟩
    · exact exsB_ok x2 (by decide +kernel) (He.glo_ok X G (c.fact 52 (f := .glo "BadClaims") rfl))
    · exact exsB_ok x2 (by decide +kernel) (He.glo_ok X G (c.fact 53 (f := .glo "BadLeft") rfl))
    · exact exsB_ok x2 (by decide +kernel) (He.glo_ok X G (c.fact 54 (f := .glo "BadPot") rfl))
    · exact exsB_ok x2 (by decide +kernel) (He.glo_ok X G (c.fact 55 (f := .glo "BadStretch") rfl))
theorem law_facts (hT : ∀ ns : List Int, ns.length ≤ 63 → (ex (callF tab WH 10) WH dL.body (startE dL.N [.scr ns, .sta])).All (fun _ fl => fl = .rt (.bl true)) (fun _ _ => False) LIM)
    {P : Program} {w : World} {K : PySem.W.Frag} {h : Heap} {mg : Str → Option Value} {f : Addr} (X : K.In h) (G : h.Ns mainGlobals mg) (hfa : mg ("law" : Str) = some (.ref f)) (cx : He.SaysX fa fn [] tf exB w h K) :
    ∃ fd : FuncData, (∀ (s : Shared) (v : Value), BindsTo s fd ⟨[v], []⟩ [("script", v)]) ∧ ∀ base : Heap, K.In base → base.Ns mainGlobals mg → (∀ p ∈ tf.map (He.cT K), LamX.TabB base mg p.1 p.2) → FnOk P w K mg base CX0 44 f fd ["script"] (spLaw K (TK K tf)) := by
  have c := cx.t.d
  obtain ⟨fd, F⟩ := c.def_ 27 (d := dd "law" 38) rfl
  obtain ⟨fdG, FG⟩ := c.def_ 8 (d := dd "_law_begun" 19) rfl
  have e := hfa.symm.trans (He.glo_ok X G (c.fact 27 (f := .glo "law") rfl))
  cases e
  have b := FunD.bindsA (ps := ["script"]) F fun _ _ _ _ _ _ us hl => match us, hl with | [_], _ => rfl
  refine ⟨fd, fun s v => b s [v] rfl, fun base _ _ TB => ?_⟩
  have x4 := of_decide_eq_true (He.ba (He.ba (He.ba cx.more).2).2).2
  have B := fun Hs s gr ce => base_of (P := P) (w := w) X G cx base TB Hs s gr ce
  have hg := He.glo_ok X G (c.fact 8 (f := .glo "_law_begun") rfl)
  have bG : Binds K fdG ["script"] [] := FG.bindsN fun _ _ _ _ _ _ us hl => match us, hl with | [_], _ => rfl
  have OG := ok_begun (P := P) (w := w) (base := base) FG (B (fun _ => none) 0 0 0).free
  exact law_ok (ck := ckL) (m := 10) (n := 4 * 10) (wh := WH) (Pt := tab) (body := dL.body) (s0 := (defBody (top 38)).getD 0 (.Pass ⟨0, 0, 0, 0⟩)) (rest := (defBody (top 38)).drop 1) F scL (show 2 ≤ dL.N.length by decide) (fun Hs s gr ce => facts (B Hs s gr ce) (at_ (B Hs s gr ce) 10) scL.nd rfl rfl rfl rfl rfl rfl rfl rfl rfl (fun _ => rfl)) rfl
    (fun cdv A outer s H E hr => ps_set (i := 1) scL.nd rfl (by first | exact Or.inl rfl | exact Or.inr rfl) (pe_call OG (hr.mono (by decide)) rfl hg FG.kp bG .nil pass0 (pa_cons (pv 0) pa_nil))) (fun h Hs s gr ce => lamD_of F (by decide +kernel) x4 TB) rfl chL hT
end LW
end
section
set_option maxHeartbeats 400000
/-! stretches -/
namespace LW
structure St where
  e : Int
  a : Int
  b : Int
  l : Int
  u : Int
structure Ok (f c : Int) (s : St) : Prop where
  fa : f ≤ s.a
  ab : s.a ≤ s.b
  bc : s.b ≤ c
  fe : f ≤ s.e
  ec : s.e + s.b - s.a ≤ c
  l0 : 0 ≤ s.l
  u0 : 0 ≤ s.u
  fl : s.a = s.b ∨ s.l + s.u = 0
abbrev I3 := Int × Int × Int
def act (s : St) (x : Int) : I3 := (s.e + min s.b (max s.a x) - s.a, s.u + max 0 (s.a - x), s.l + max 0 (x - s.b))
def lk (p q : St) : St :=
  if p.e + p.b - p.a ≤ q.a then ⟨q.e, p.b, p.b, p.l + q.l, p.u + q.u + q.a - (p.e + p.b - p.a)⟩
  else if p.e ≥ q.b then ⟨q.e + q.b - q.a, p.a, p.a, p.l + q.l + p.e - q.b, p.u + q.u⟩
  else ⟨q.e + max 0 (p.e - q.a), p.a + max 0 (q.a - p.e), p.b - max 0 (p.e + p.b - p.a - q.b), p.l + q.l, p.u + q.u⟩
def thn3 (p q : St) (x : Int) : I3 := ((act q (act p x).1).1, (act p x).2.1 + (act q (act p x).1).2.1, (act p x).2.2 + (act q (act p x).1).2.2)
theorem lk_ok {f c : Int} {p q : St} (hp : Ok f c p) (hq : Ok f c q) : Ok f c (lk p q) := by
  obtain ⟨p1, p2, p3, p4, p5, p6, p7, p8⟩ := hp
  obtain ⟨q1, q2, q3, q4, q5, q6, q7, q8⟩ := hq
  unfold lk
  split
  · exact ⟨by show f ≤ p.b; omega, by show p.b ≤ p.b; omega, p3, q4, by show q.e + p.b - p.b ≤ c; omega, by show 0 ≤ p.l + q.l; omega, by show 0 ≤ p.u + q.u + q.a - (p.e + p.b - p.a); omega, .inl rfl⟩
  · split
    · exact ⟨p1, by show p.a ≤ p.a; omega, by show p.a ≤ c; omega, by show f ≤ q.e + q.b - q.a; omega, by show q.e + q.b - q.a + p.a - p.a ≤ c; omega, by show 0 ≤ p.l + q.l + p.e - q.b; omega, by show 0 ≤ p.u + q.u; omega, .inl rfl⟩
    · refine ⟨?_, ?_, ?_, ?_, ?_, ?_, ?_, ?_⟩
      · show f ≤ p.a + max 0 (q.a - p.e); omega
      · show p.a + max 0 (q.a - p.e) ≤ p.b - max 0 (p.e + p.b - p.a - q.b); omega
      · show p.b - max 0 (p.e + p.b - p.a - q.b) ≤ c; omega
      · show f ≤ q.e + max 0 (p.e - q.a); omega
      · show q.e + max 0 (p.e - q.a) + (p.b - max 0 (p.e + p.b - p.a - q.b)) - (p.a + max 0 (q.a - p.e)) ≤ c; omega
      · show 0 ≤ p.l + q.l; omega
      · show 0 ≤ p.u + q.u; omega
      · show p.a + max 0 (q.a - p.e) = p.b - max 0 (p.e + p.b - p.a - q.b) ∨ p.l + q.l + (p.u + q.u) = 0; omega
theorem lk_act {f c x : Int} {p q : St} (hp : Ok f c p) (hq : Ok f c q) (h1 : f ≤ x) (h2 : x ≤ c) : act (lk p q) x = thn3 p q x := by
  obtain ⟨p1, p2, p3, p4, p5, p6, p7, p8⟩ := hp
  obtain ⟨q1, q2, q3, q4, q5, q6, q7, q8⟩ := hq
  unfold lk
  split
  · unfold thn3 act
    refine Prod.ext ?_ (Prod.ext ?_ ?_)
    · show q.e + min p.b (max p.b x) - p.b = q.e + min q.b (max q.a (p.e + min p.b (max p.a x) - p.a)) - q.a; omega
    · show p.u + q.u + q.a - (p.e + p.b - p.a) + max 0 (p.b - x) = p.u + max 0 (p.a - x) + (q.u + max 0 (q.a - (p.e + min p.b (max p.a x) - p.a))); omega
    · show p.l + q.l + max 0 (x - p.b) = p.l + max 0 (x - p.b) + (q.l + max 0 (p.e + min p.b (max p.a x) - p.a - q.b)); omega
  · split
    · unfold thn3 act
      refine Prod.ext ?_ (Prod.ext ?_ ?_)
      · show q.e + q.b - q.a + min p.a (max p.a x) - p.a = q.e + min q.b (max q.a (p.e + min p.b (max p.a x) - p.a)) - q.a; omega
      · show p.u + q.u + max 0 (p.a - x) = p.u + max 0 (p.a - x) + (q.u + max 0 (q.a - (p.e + min p.b (max p.a x) - p.a))); omega
      · show p.l + q.l + p.e - q.b + max 0 (x - p.a) = p.l + max 0 (x - p.b) + (q.l + max 0 (p.e + min p.b (max p.a x) - p.a - q.b)); omega
    · unfold thn3 act
      refine Prod.ext ?_ (Prod.ext ?_ ?_)
      · show q.e + max 0 (p.e - q.a) + min (p.b - max 0 (p.e + p.b - p.a - q.b)) (max (p.a + max 0 (q.a - p.e)) x) - (p.a + max 0 (q.a - p.e)) = q.e + min q.b (max q.a (p.e + min p.b (max p.a x) - p.a)) - q.a; omega
      · show p.u + q.u + max 0 (p.a + max 0 (q.a - p.e) - x) = p.u + max 0 (p.a - x) + (q.u + max 0 (q.a - (p.e + min p.b (max p.a x) - p.a))); omega
      · show p.l + q.l + max 0 (x - (p.b - max 0 (p.e + p.b - p.a - q.b))) = p.l + max 0 (x - p.b) + (q.l + max 0 (p.e + min p.b (max p.a x) - p.a - q.b)); omega
theorem act_in {f c x : Int} {s : St} (h : Ok f c s) : f ≤ (act s x).1 ∧ (act s x).1 ≤ c := by
  obtain ⟨p1, p2, p3, p4, p5, p6, p7, p8⟩ := h
  show f ≤ s.e + min s.b (max s.a x) - s.a ∧ s.e + min s.b (max s.a x) - s.a ≤ c
  omega
def rd (f c : Int) (lo hi : I3) : St := ⟨lo.1, f + lo.2.1 - hi.2.1, c - (hi.2.2 - lo.2.2), lo.2.2, hi.2.1⟩
theorem rd_act {f c : Int} {s : St} (h : Ok f c s) : rd f c (act s f) (act s c) = s := by
  obtain ⟨p1, p2, p3, p4, p5, p6, p7, p8⟩ := h
  obtain ⟨e, a, b, l, u⟩ := s
  have p1 : f ≤ a := p1
  have p2 : a ≤ b := p2
  have p3 : b ≤ c := p3
  show St.mk (e + min b (max a f) - a) (f + (u + max 0 (a - f)) - (u + max 0 (a - c))) (c - (l + max 0 (c - b) - (l + max 0 (f - b)))) (l + max 0 (f - b)) (u + max 0 (a - c)) = _
  congr 1 <;> omega
theorem st_ext {f c : Int} {s t : St} (hf : f ≤ c) (hs : Ok f c s) (ht : Ok f c t) (h : ∀ x, f ≤ x → x ≤ c → act s x = act t x) : s = t := by
  rw [← rd_act hs, ← rd_act ht, h f (Int.le_refl _) hf, h c hf (Int.le_refl _)]
def stp (f c x k : Int) : I3 := (min c (max f (x - k)), max 0 (f - (x - k)), max 0 (x - k - c))
def ledS (f c : Int) (s : I3) (k : Int) : I3 := ((stp f c s.1 k).1, s.2.1 + (stp f c s.1 k).2.1, s.2.2 + (stp f c s.1 k).2.2)
def led (f c x : Int) (ks : List Int) : I3 := ks.foldl (ledS f c) (x, 0, 0)
def sg (f c k : Int) : St := if 0 ≤ k then ⟨f, min c (f + k), c, 0, k - (min c (f + k) - f)⟩ else ⟨f + c - max f (c + k), f, max f (c + k), -k - (c - max f (c + k)), 0⟩
theorem sg_ok {f c k : Int} (h : f < c) : Ok f c (sg f c k) := by
  unfold sg
  split
  · refine ⟨?_, ?_, ?_, ?_, ?_, ?_, ?_, ?_⟩
    · show f ≤ min c (f + k); omega
    · show min c (f + k) ≤ c; omega
    · show c ≤ c; omega
    · show f ≤ f; omega
    · show f + c - min c (f + k) ≤ c; omega
    · show (0 : Int) ≤ 0; omega
    · show 0 ≤ k - (min c (f + k) - f); omega
    · show min c (f + k) = c ∨ 0 + (k - (min c (f + k) - f)) = 0; omega
  · refine ⟨?_, ?_, ?_, ?_, ?_, ?_, ?_, ?_⟩
    · show f ≤ f; omega
    · show f ≤ max f (c + k); omega
    · show max f (c + k) ≤ c; omega
    · show f ≤ f + c - max f (c + k); omega
    · show f + c - max f (c + k) + max f (c + k) - f ≤ c; omega
    · show 0 ≤ -k - (c - max f (c + k)); omega
    · show (0 : Int) ≤ 0; omega
    · show f = max f (c + k) ∨ -k - (c - max f (c + k)) + 0 = 0; omega
theorem sg_act {f c k x : Int} (h : f < c) (h1 : f ≤ x) (h2 : x ≤ c) : act (sg f c k) x = stp f c x k := by
  unfold sg stp act
  split
  · refine Prod.ext ?_ (Prod.ext ?_ ?_)
    · show f + min c (max (min c (f + k)) x) - min c (f + k) = min c (max f (x - k)); omega
    · show k - (min c (f + k) - f) + max 0 (min c (f + k) - x) = max 0 (f - (x - k)); omega
    · show 0 + max 0 (x - c) = max 0 (x - k - c); omega
  · refine Prod.ext ?_ (Prod.ext ?_ ?_)
    · show f + c - max f (c + k) + min (max f (c + k)) (max f x) - f = min c (max f (x - k)); omega
    · show 0 + max 0 (f - x) = max 0 (f - (x - k)); omega
    · show -k - (c - max f (c + k)) + max 0 (x - max f (c + k)) = max 0 (x - k - c); omega
def s0 (f c : Int) : St := ⟨f, f, c, 0, 0⟩
theorem s0_ok {f c : Int} (h : f < c) : Ok f c (s0 f c) := ⟨Int.le_refl f, Int.le_of_lt h, Int.le_refl c, Int.le_refl f, by show f + c - f ≤ c; omega, Int.le_refl 0, Int.le_refl 0, .inr rfl⟩
theorem s0_act {f c x : Int} (h1 : f ≤ x) (h2 : x ≤ c) : act (s0 f c) x = (x, 0, 0) := by
  unfold act s0
  refine Prod.ext ?_ (Prod.ext ?_ ?_)
  · show f + min c (max f x) - f = x; omega
  · show 0 + max 0 (f - x) = 0; omega
  · show 0 + max 0 (x - c) = 0; omega
theorem led_from {f c : Int} (h : f < c) : ∀ (ks : List Int) (s : St), Ok f c s → ∃ t, Ok f c t ∧ ∀ x, f ≤ x → x ≤ c → ks.foldl (ledS f c) (act s x) = act t x
  | [], s, hs => ⟨s, hs, fun _ _ _ => rfl⟩
  | k :: ks, s, hs => by
    obtain ⟨t, t1, t2⟩ := led_from h ks (lk s (sg f c k)) (lk_ok hs (sg_ok h))
    refine ⟨t, t1, fun x h1 h2 => ?_⟩
    rw [← t2 x h1 h2, List.foldl_cons, lk_act hs (sg_ok h) h1 h2]
    congr 1
    have i := act_in (x := x) hs
    unfold thn3 ledS
    rw [sg_act h i.1 i.2]
def strS (f c : Int) (ks : List Int) : St := rd f c (led f c f ks) (led f c c ks)
theorem str_all {f c : Int} (h : f < c) (ks : List Int) : Ok f c (strS f c ks) ∧ ∀ x, f ≤ x → x ≤ c → act (strS f c ks) x = led f c x ks := by
  obtain ⟨t, t1, t2⟩ := led_from h ks (s0 f c) (s0_ok h)
  have t3 : ∀ x, f ≤ x → x ≤ c → led f c x ks = act t x := fun x h1 h2 => by
    rw [← t2 x h1 h2, s0_act h1 h2]
    rfl
  have e : strS f c ks = t := by
    unfold strS
    rw [t3 f (Int.le_refl _) (Int.le_of_lt h), t3 c (Int.le_of_lt h) (Int.le_refl _), rd_act t1]
  rw [e]
  exact ⟨t1, fun x h1 h2 => (t3 x h1 h2).symm⟩
theorem fold_add {f c : Int} : ∀ (ks : List Int) (x p q : Int), ks.foldl (ledS f c) (x, p, q) = ((led f c x ks).1, p + (led f c x ks).2.1, q + (led f c x ks).2.2)
  | [], x, p, q => by
    show (x, p, q) = (x, p + 0, q + 0)
    rw [Int.add_zero, Int.add_zero]
  | k :: ks, x, p, q => by
    unfold led
    rw [List.foldl_cons, List.foldl_cons]
    have e1 := fold_add (f := f) (c := c) ks (stp f c x k).1 (p + (stp f c x k).2.1) (q + (stp f c x k).2.2)
    have e2 := fold_add (f := f) (c := c) ks (stp f c x k).1 (0 + (stp f c x k).2.1) (0 + (stp f c x k).2.2)
    show List.foldl (ledS f c) ((stp f c x k).1, p + (stp f c x k).2.1, q + (stp f c x k).2.2) ks = _
    rw [e1]
    show _ = ((List.foldl (ledS f c) ((stp f c x k).1, 0 + (stp f c x k).2.1, 0 + (stp f c x k).2.2) ks).1, p + (List.foldl (ledS f c) ((stp f c x k).1, 0 + (stp f c x k).2.1, 0 + (stp f c x k).2.2) ks).2.1, q + (List.foldl (ledS f c) ((stp f c x k).1, 0 + (stp f c x k).2.1, 0 + (stp f c x k).2.2) ks).2.2)
    rw [e2]
    refine Prod.ext rfl (Prod.ext ?_ ?_)
    · show p + _ + _ = p + (0 + _ + _); omega
    · show q + _ + _ = q + (0 + _ + _); omega
theorem lk_str {f c : Int} (h : f < c) (as bs : List Int) : lk (strS f c as) (strS f c bs) = strS f c (as ++ bs) := by
  obtain ⟨a1, a2⟩ := str_all h as
  obtain ⟨b1, b2⟩ := str_all h bs
  obtain ⟨d1, d2⟩ := str_all h (as ++ bs)
  refine st_ext (Int.le_of_lt h) (lk_ok a1 b1) d1 fun x h1 h2 => ?_
  have i := act_in (x := x) a1
  rw [lk_act a1 b1 h1 h2, d2 x h1 h2]
  unfold thn3
  rw [b2 _ i.1 i.2, a2 x h1 h2]
  unfold led
  rw [List.foldl_append]
  exact (fold_add bs _ _ _).symm
theorem s0_str {f c : Int} (h : f < c) : strS f c [] = s0 f c := by
  show St.mk f (f + 0 - 0) (c - (0 - 0)) 0 0 = St.mk f f c 0 0
  congr 1 <;> omega
theorem lk_s0 {f c : Int} (h : f < c) {s : St} (hs : Ok f c s) : lk (s0 f c) s = s ∧ lk s (s0 f c) = s := by
  constructor
  · refine st_ext (Int.le_of_lt h) (lk_ok (s0_ok h) hs) hs fun x h1 h2 => ?_
    rw [lk_act (s0_ok h) hs h1 h2]
    unfold thn3
    rw [s0_act h1 h2]
    refine Prod.ext rfl (Prod.ext ?_ ?_)
    · show 0 + _ = _; rw [Int.zero_add]
    · show 0 + _ = _; rw [Int.zero_add]
  · refine st_ext (Int.le_of_lt h) (lk_ok hs (s0_ok h)) hs fun x h1 h2 => ?_
    have i := act_in (x := x) hs
    rw [lk_act hs (s0_ok h) h1 h2]
    unfold thn3
    rw [s0_act i.1 i.2]
    refine Prod.ext rfl (Prod.ext ?_ ?_)
    · show _ + 0 = _; rw [Int.add_zero]
    · show _ + 0 = _; rw [Int.add_zero]
theorem lk_assoc {f c : Int} (h : f < c) {p q r : St} (hp : Ok f c p) (hq : Ok f c q) (hr : Ok f c r) : lk (lk p q) r = lk p (lk q r) := by
  refine st_ext (Int.le_of_lt h) (lk_ok (lk_ok hp hq) hr) (lk_ok hp (lk_ok hq hr)) fun x h1 h2 => ?_
  have i := act_in (x := x) hp
  rw [lk_act (lk_ok hp hq) hr h1 h2, lk_act hp (lk_ok hq hr) h1 h2]
  unfold thn3
  rw [lk_act hp hq h1 h2, lk_act hq hr i.1 i.2]
  unfold thn3
  refine Prod.ext rfl (Prod.ext ?_ ?_)
  · show _ + _ + _ = _ + (_ + _); rw [Int.add_assoc]
  · show _ + _ + _ = _ + (_ + _); rw [Int.add_assoc]
/-- a row, linked -/
def pr : List St → St
  | [] => ⟨0, 0, 0, 0, 0⟩
  | s :: l => l.foldl lk s
theorem fold_ok {f c : Int} : ∀ (l : List St) (s : St), Ok f c s → (∀ t ∈ l, Ok f c t) → Ok f c (l.foldl lk s)
  | [], s, hs, _ => hs
  | t :: l, s, hs, h => fold_ok l (lk s t) (lk_ok hs (h t List.mem_cons_self)) fun z hz => h z (List.mem_cons_of_mem _ hz)
theorem pr_step {f c : Int} (hf : f < c) : ∀ (A : List St) (x y : St) (B : List St), (∀ t ∈ A, Ok f c t) → Ok f c x → Ok f c y → pr (A ++ lk x y :: B) = pr (A ++ x :: y :: B)
  | [], x, y, B, _, _, _ => rfl
  | s :: A, x, y, B, hA, hx, hy => by
    show (A ++ lk x y :: B).foldl lk s = (A ++ x :: y :: B).foldl lk s
    rw [List.foldl_append, List.foldl_append, List.foldl_cons, List.foldl_cons, List.foldl_cons]
    congr 1
    exact (lk_assoc hf (fold_ok A s (hA s List.mem_cons_self) fun z hz => hA z (List.mem_cons_of_mem _ hz)) hx hy).symm
end LW
end
section
set_option maxHeartbeats 1000000
namespace LW
open PySem PV
theorem pw18 : binT .pow (.int 10) (.int 18) = .ret (.int 1000000000000000000) := by
  show (if (0:Int) ≤ 18 ∧ (18:Int) ≤ 1000 ∧ (10 : Int).natAbs < 2 ^ 64 then T.ret (D.int ((10:Int) ^ (18:Int).toNat)) else T.bad) = _
  rw [if_pos (by decide)]
  rfl
theorem pw17 : binT .pow (.int 10) (.int 17) = .ret (.int 100000000000000000) := by
  show (if (0:Int) ≤ 17 ∧ (17:Int) ≤ 1000 ∧ (10 : Int).natAbs < 2 ^ 64 then T.ret (D.int ((10:Int) ^ (17:Int).toNat)) else T.bad) = _
  rw [if_pos (by decide)]
  rfl
theorem t3 {a b c : D} : lenT [a, b, c] (.tup [a, b, c]) = .ret (.tup [a, b, c]) := rfl
theorem t2 {a b : D} : lenT [a, b] (.tup [a, b]) = .ret (.tup [a, b]) := rfl
theorem q_fdivW {i j : Int} (h : 0 < j) (h2 : j < 2 ^ 200) : binT .fdiv (.int i) (.int j) = .ret (.int (i / j)) := if_pos ⟨h, h2⟩
/-- a value of a plain kind -/
def kd : D → Bool
  | .int _ => true | .bl _ => true | .non => true | .str _ => true | .tup _ => true | .lst _ => true | _ => false
def whB : D → Bool
  | .int i => decide (-1000000000000000000 < i) && decide (i < 1000000000000000000)
  | _ => false
def inD : D → Bool
  | .int _ => true
  | _ => false
theorem kd_fz {d : D} (h : kd d = true) : fz d = .ret d := by
  cases d <;> first | rfl | cases h
theorem f1 {n : Nat} {d : D} (h : kd d = true) : callF tab WH (n + 1) 1 [d] = .ret (.bl (whB d)) := by
  show runD (callF tab WH n) WH d1 _ = _
  rw [run_eq rfl]
  simp only [d1, startE]
  cases d with
  | int i =>
    have k : bltT .isint [.int i] = .ret (.bl true) := rfl
    have k2 : bltT .isbool [.int i] = .ret (.bl false) := rfl
    unfold whB
    by_cases h1 : -1000000000000000000 < i
    · simp only [e_non, e_bl, e_int, e_str, e_var, e_con, e_bin, e_neg, e_cmp, e_chain, e_chain3, e_lrng, e_and, e_or, e_not, e_ite, e_tup, e_lst, e_idx, e_slc, e_call, e_callK, e_blt, e_isk, e_caught, e_isx, e_must, e_errs, q_must, e_op0, e_op1, e_callM, b_op1, b_callM, i_callK, i_op1, o_emp, o_revT, b_var, b_cmp, b_chain, b_chain3, b_and, b_or, b_not, b_yes, b_call, b_callK, b_blt, b_isx, b_errs, b_isk, a_nil, a_cons, r_nil, r_cons, o_nopart, o_part, i_rng1, i_rng2, i_zip, i_enum, i_cap, i_var, i_blt, i_call, i_tup, i_lst, i_idx, i_slc, q_add, q_sub, q_neg, q_lt, q_le, q_gt, q_ge, q_eqI, q_neI, q_isNN, q_isNT, q_isNI, q_isNL, q_isBB, q_isNB, q_isNS, q_isnNN, q_isnNT, q_isnNI, q_isnNL, q_andT, q_andF, q_orT, q_orF, q_not, q_toB, q_part, q_fzI, q_fzB, q_fzS, q_fzN, q_fzT, q_fzL, q_fzW, q_fzSt, q_fzSc, s_nil, s_cons, k_nx, k_rt, k_bk, k_ct, s_asg, s_asgF, s_asgT, k_asg, s_par, s_expr, s_iff, s_retN, s_raise, s_brk, s_cont, s_lams, s_pass, s_frz, k_frzO, k_frzV, s_retV, k_retO, k_retV, s_ret_non, s_ret_bl, s_ret_int, s_ret_str, s_ret_con, s_ret_bin, s_ret_neg, s_ret_cmp, s_ret_chain, s_ret_chain3, s_ret_lrng, s_ret_and, s_ret_or, s_ret_not, s_ret_ite, s_ret_tup, s_ret_lst, s_ret_idx, s_ret_slc, s_ret_call, s_ret_callK, s_ret_op0, s_ret_op1, s_ret_callM, s_ret_blt, s_ret_isx, s_ret_errs, s_ret_isk, s_ret_comp, s_app, k_runR, k_runN, for_nil, k_forN, k_forC, k_forB, k_forR, g_nm, g_tp, o_some, noErr_ret, Yes, retK, ret_bind, err_bind, bad_bind, draw_bind, getV, slOf, slO, setAll, parT, List.length_cons, List.length_nil, List.map_cons, List.map_nil, List.getElem?_cons_zero, List.getElem?_cons_succ, List.set_cons_zero, List.set_cons_succ, List.cons_append, List.nil_append, List.replicate_succ, List.replicate_zero, k, k2, pw18, h1, decide_true, if_true, Bool.not_false, Bool.true_and]
    · simp only [e_non, e_bl, e_int, e_str, e_var, e_con, e_bin, e_neg, e_cmp, e_chain, e_chain3, e_lrng, e_and, e_or, e_not, e_ite, e_tup, e_lst, e_idx, e_slc, e_call, e_callK, e_blt, e_isk, e_caught, e_isx, e_must, e_errs, q_must, e_op0, e_op1, e_callM, b_op1, b_callM, i_callK, i_op1, o_emp, o_revT, b_var, b_cmp, b_chain, b_chain3, b_and, b_or, b_not, b_yes, b_call, b_callK, b_blt, b_isx, b_errs, b_isk, a_nil, a_cons, r_nil, r_cons, o_nopart, o_part, i_rng1, i_rng2, i_zip, i_enum, i_cap, i_var, i_blt, i_call, i_tup, i_lst, i_idx, i_slc, q_add, q_sub, q_neg, q_lt, q_le, q_gt, q_ge, q_eqI, q_neI, q_isNN, q_isNT, q_isNI, q_isNL, q_isBB, q_isNB, q_isNS, q_isnNN, q_isnNT, q_isnNI, q_isnNL, q_andT, q_andF, q_orT, q_orF, q_not, q_toB, q_part, q_fzI, q_fzB, q_fzS, q_fzN, q_fzT, q_fzL, q_fzW, q_fzSt, q_fzSc, s_nil, s_cons, k_nx, k_rt, k_bk, k_ct, s_asg, s_asgF, s_asgT, k_asg, s_par, s_expr, s_iff, s_retN, s_raise, s_brk, s_cont, s_lams, s_pass, s_frz, k_frzO, k_frzV, s_retV, k_retO, k_retV, s_ret_non, s_ret_bl, s_ret_int, s_ret_str, s_ret_con, s_ret_bin, s_ret_neg, s_ret_cmp, s_ret_chain, s_ret_chain3, s_ret_lrng, s_ret_and, s_ret_or, s_ret_not, s_ret_ite, s_ret_tup, s_ret_lst, s_ret_idx, s_ret_slc, s_ret_call, s_ret_callK, s_ret_op0, s_ret_op1, s_ret_callM, s_ret_blt, s_ret_isx, s_ret_errs, s_ret_isk, s_ret_comp, s_app, k_runR, k_runN, for_nil, k_forN, k_forC, k_forB, k_forR, g_nm, g_tp, o_some, noErr_ret, Yes, retK, ret_bind, err_bind, bad_bind, draw_bind, getV, slOf, slO, setAll, parT, List.length_cons, List.length_nil, List.map_cons, List.map_nil, List.getElem?_cons_zero, List.getElem?_cons_succ, List.set_cons_zero, List.set_cons_succ, List.cons_append, List.nil_append, List.replicate_succ, List.replicate_zero, k, k2, pw18, h1, decide_false, Bool.false_eq_true, if_false, Bool.not_false, Bool.false_and]
  | bl b =>
    have k : bltT .isint [.bl b] = .ret (.bl true) := rfl
    have k2 : bltT .isbool [.bl b] = .ret (.bl true) := rfl
    simp only [e_non, e_bl, e_int, e_str, e_var, e_con, e_bin, e_neg, e_cmp, e_chain, e_chain3, e_lrng, e_and, e_or, e_not, e_ite, e_tup, e_lst, e_idx, e_slc, e_call, e_callK, e_blt, e_isk, e_caught, e_isx, e_must, e_errs, q_must, e_op0, e_op1, e_callM, b_op1, b_callM, i_callK, i_op1, o_emp, o_revT, b_var, b_cmp, b_chain, b_chain3, b_and, b_or, b_not, b_yes, b_call, b_callK, b_blt, b_isx, b_errs, b_isk, a_nil, a_cons, r_nil, r_cons, o_nopart, o_part, i_rng1, i_rng2, i_zip, i_enum, i_cap, i_var, i_blt, i_call, i_tup, i_lst, i_idx, i_slc, q_add, q_sub, q_neg, q_lt, q_le, q_gt, q_ge, q_eqI, q_neI, q_isNN, q_isNT, q_isNI, q_isNL, q_isBB, q_isNB, q_isNS, q_isnNN, q_isnNT, q_isnNI, q_isnNL, q_andT, q_andF, q_orT, q_orF, q_not, q_toB, q_part, q_fzI, q_fzB, q_fzS, q_fzN, q_fzT, q_fzL, q_fzW, q_fzSt, q_fzSc, s_nil, s_cons, k_nx, k_rt, k_bk, k_ct, s_asg, s_asgF, s_asgT, k_asg, s_par, s_expr, s_iff, s_retN, s_raise, s_brk, s_cont, s_lams, s_pass, s_frz, k_frzO, k_frzV, s_retV, k_retO, k_retV, s_ret_non, s_ret_bl, s_ret_int, s_ret_str, s_ret_con, s_ret_bin, s_ret_neg, s_ret_cmp, s_ret_chain, s_ret_chain3, s_ret_lrng, s_ret_and, s_ret_or, s_ret_not, s_ret_ite, s_ret_tup, s_ret_lst, s_ret_idx, s_ret_slc, s_ret_call, s_ret_callK, s_ret_op0, s_ret_op1, s_ret_callM, s_ret_blt, s_ret_isx, s_ret_errs, s_ret_isk, s_ret_comp, s_app, k_runR, k_runN, for_nil, k_forN, k_forC, k_forB, k_forR, g_nm, g_tp, o_some, noErr_ret, Yes, retK, ret_bind, err_bind, bad_bind, draw_bind, getV, slOf, slO, setAll, parT, List.length_cons, List.length_nil, List.map_cons, List.map_nil, List.getElem?_cons_zero, List.getElem?_cons_succ, List.set_cons_zero, List.set_cons_succ, List.cons_append, List.nil_append, List.replicate_succ, List.replicate_zero, k, k2, Bool.not_true, whB]
  | non =>
    have k : bltT .isint [.non] = .ret (.bl false) := rfl
    simp only [e_non, e_bl, e_int, e_str, e_var, e_con, e_bin, e_neg, e_cmp, e_chain, e_chain3, e_lrng, e_and, e_or, e_not, e_ite, e_tup, e_lst, e_idx, e_slc, e_call, e_callK, e_blt, e_isk, e_caught, e_isx, e_must, e_errs, q_must, e_op0, e_op1, e_callM, b_op1, b_callM, i_callK, i_op1, o_emp, o_revT, b_var, b_cmp, b_chain, b_chain3, b_and, b_or, b_not, b_yes, b_call, b_callK, b_blt, b_isx, b_errs, b_isk, a_nil, a_cons, r_nil, r_cons, o_nopart, o_part, i_rng1, i_rng2, i_zip, i_enum, i_cap, i_var, i_blt, i_call, i_tup, i_lst, i_idx, i_slc, q_add, q_sub, q_neg, q_lt, q_le, q_gt, q_ge, q_eqI, q_neI, q_isNN, q_isNT, q_isNI, q_isNL, q_isBB, q_isNB, q_isNS, q_isnNN, q_isnNT, q_isnNI, q_isnNL, q_andT, q_andF, q_orT, q_orF, q_not, q_toB, q_part, q_fzI, q_fzB, q_fzS, q_fzN, q_fzT, q_fzL, q_fzW, q_fzSt, q_fzSc, s_nil, s_cons, k_nx, k_rt, k_bk, k_ct, s_asg, s_asgF, s_asgT, k_asg, s_par, s_expr, s_iff, s_retN, s_raise, s_brk, s_cont, s_lams, s_pass, s_frz, k_frzO, k_frzV, s_retV, k_retO, k_retV, s_ret_non, s_ret_bl, s_ret_int, s_ret_str, s_ret_con, s_ret_bin, s_ret_neg, s_ret_cmp, s_ret_chain, s_ret_chain3, s_ret_lrng, s_ret_and, s_ret_or, s_ret_not, s_ret_ite, s_ret_tup, s_ret_lst, s_ret_idx, s_ret_slc, s_ret_call, s_ret_callK, s_ret_op0, s_ret_op1, s_ret_callM, s_ret_blt, s_ret_isx, s_ret_errs, s_ret_isk, s_ret_comp, s_app, k_runR, k_runN, for_nil, k_forN, k_forC, k_forB, k_forR, g_nm, g_tp, o_some, noErr_ret, Yes, retK, ret_bind, err_bind, bad_bind, draw_bind, getV, slOf, slO, setAll, parT, List.length_cons, List.length_nil, List.map_cons, List.map_nil, List.getElem?_cons_zero, List.getElem?_cons_succ, List.set_cons_zero, List.set_cons_succ, List.cons_append, List.nil_append, List.replicate_succ, List.replicate_zero, k, whB]
  | str x =>
    have k : bltT .isint [.str x] = .ret (.bl false) := rfl
    simp only [e_non, e_bl, e_int, e_str, e_var, e_con, e_bin, e_neg, e_cmp, e_chain, e_chain3, e_lrng, e_and, e_or, e_not, e_ite, e_tup, e_lst, e_idx, e_slc, e_call, e_callK, e_blt, e_isk, e_caught, e_isx, e_must, e_errs, q_must, e_op0, e_op1, e_callM, b_op1, b_callM, i_callK, i_op1, o_emp, o_revT, b_var, b_cmp, b_chain, b_chain3, b_and, b_or, b_not, b_yes, b_call, b_callK, b_blt, b_isx, b_errs, b_isk, a_nil, a_cons, r_nil, r_cons, o_nopart, o_part, i_rng1, i_rng2, i_zip, i_enum, i_cap, i_var, i_blt, i_call, i_tup, i_lst, i_idx, i_slc, q_add, q_sub, q_neg, q_lt, q_le, q_gt, q_ge, q_eqI, q_neI, q_isNN, q_isNT, q_isNI, q_isNL, q_isBB, q_isNB, q_isNS, q_isnNN, q_isnNT, q_isnNI, q_isnNL, q_andT, q_andF, q_orT, q_orF, q_not, q_toB, q_part, q_fzI, q_fzB, q_fzS, q_fzN, q_fzT, q_fzL, q_fzW, q_fzSt, q_fzSc, s_nil, s_cons, k_nx, k_rt, k_bk, k_ct, s_asg, s_asgF, s_asgT, k_asg, s_par, s_expr, s_iff, s_retN, s_raise, s_brk, s_cont, s_lams, s_pass, s_frz, k_frzO, k_frzV, s_retV, k_retO, k_retV, s_ret_non, s_ret_bl, s_ret_int, s_ret_str, s_ret_con, s_ret_bin, s_ret_neg, s_ret_cmp, s_ret_chain, s_ret_chain3, s_ret_lrng, s_ret_and, s_ret_or, s_ret_not, s_ret_ite, s_ret_tup, s_ret_lst, s_ret_idx, s_ret_slc, s_ret_call, s_ret_callK, s_ret_op0, s_ret_op1, s_ret_callM, s_ret_blt, s_ret_isx, s_ret_errs, s_ret_isk, s_ret_comp, s_app, k_runR, k_runN, for_nil, k_forN, k_forC, k_forB, k_forR, g_nm, g_tp, o_some, noErr_ret, Yes, retK, ret_bind, err_bind, bad_bind, draw_bind, getV, slOf, slO, setAll, parT, List.length_cons, List.length_nil, List.map_cons, List.map_nil, List.getElem?_cons_zero, List.getElem?_cons_succ, List.set_cons_zero, List.set_cons_succ, List.cons_append, List.nil_append, List.replicate_succ, List.replicate_zero, k, whB]
  | tup x =>
    have k : bltT .isint [.tup x] = .ret (.bl false) := rfl
    simp only [e_non, e_bl, e_int, e_str, e_var, e_con, e_bin, e_neg, e_cmp, e_chain, e_chain3, e_lrng, e_and, e_or, e_not, e_ite, e_tup, e_lst, e_idx, e_slc, e_call, e_callK, e_blt, e_isk, e_caught, e_isx, e_must, e_errs, q_must, e_op0, e_op1, e_callM, b_op1, b_callM, i_callK, i_op1, o_emp, o_revT, b_var, b_cmp, b_chain, b_chain3, b_and, b_or, b_not, b_yes, b_call, b_callK, b_blt, b_isx, b_errs, b_isk, a_nil, a_cons, r_nil, r_cons, o_nopart, o_part, i_rng1, i_rng2, i_zip, i_enum, i_cap, i_var, i_blt, i_call, i_tup, i_lst, i_idx, i_slc, q_add, q_sub, q_neg, q_lt, q_le, q_gt, q_ge, q_eqI, q_neI, q_isNN, q_isNT, q_isNI, q_isNL, q_isBB, q_isNB, q_isNS, q_isnNN, q_isnNT, q_isnNI, q_isnNL, q_andT, q_andF, q_orT, q_orF, q_not, q_toB, q_part, q_fzI, q_fzB, q_fzS, q_fzN, q_fzT, q_fzL, q_fzW, q_fzSt, q_fzSc, s_nil, s_cons, k_nx, k_rt, k_bk, k_ct, s_asg, s_asgF, s_asgT, k_asg, s_par, s_expr, s_iff, s_retN, s_raise, s_brk, s_cont, s_lams, s_pass, s_frz, k_frzO, k_frzV, s_retV, k_retO, k_retV, s_ret_non, s_ret_bl, s_ret_int, s_ret_str, s_ret_con, s_ret_bin, s_ret_neg, s_ret_cmp, s_ret_chain, s_ret_chain3, s_ret_lrng, s_ret_and, s_ret_or, s_ret_not, s_ret_ite, s_ret_tup, s_ret_lst, s_ret_idx, s_ret_slc, s_ret_call, s_ret_callK, s_ret_op0, s_ret_op1, s_ret_callM, s_ret_blt, s_ret_isx, s_ret_errs, s_ret_isk, s_ret_comp, s_app, k_runR, k_runN, for_nil, k_forN, k_forC, k_forB, k_forR, g_nm, g_tp, o_some, noErr_ret, Yes, retK, ret_bind, err_bind, bad_bind, draw_bind, getV, slOf, slO, setAll, parT, List.length_cons, List.length_nil, List.map_cons, List.map_nil, List.getElem?_cons_zero, List.getElem?_cons_succ, List.set_cons_zero, List.set_cons_succ, List.cons_append, List.nil_append, List.replicate_succ, List.replicate_zero, k, whB]
  | lst x =>
    have k : bltT .isint [.lst x] = .ret (.bl false) := rfl
    simp only [e_non, e_bl, e_int, e_str, e_var, e_con, e_bin, e_neg, e_cmp, e_chain, e_chain3, e_lrng, e_and, e_or, e_not, e_ite, e_tup, e_lst, e_idx, e_slc, e_call, e_callK, e_blt, e_isk, e_caught, e_isx, e_must, e_errs, q_must, e_op0, e_op1, e_callM, b_op1, b_callM, i_callK, i_op1, o_emp, o_revT, b_var, b_cmp, b_chain, b_chain3, b_and, b_or, b_not, b_yes, b_call, b_callK, b_blt, b_isx, b_errs, b_isk, a_nil, a_cons, r_nil, r_cons, o_nopart, o_part, i_rng1, i_rng2, i_zip, i_enum, i_cap, i_var, i_blt, i_call, i_tup, i_lst, i_idx, i_slc, q_add, q_sub, q_neg, q_lt, q_le, q_gt, q_ge, q_eqI, q_neI, q_isNN, q_isNT, q_isNI, q_isNL, q_isBB, q_isNB, q_isNS, q_isnNN, q_isnNT, q_isnNI, q_isnNL, q_andT, q_andF, q_orT, q_orF, q_not, q_toB, q_part, q_fzI, q_fzB, q_fzS, q_fzN, q_fzT, q_fzL, q_fzW, q_fzSt, q_fzSc, s_nil, s_cons, k_nx, k_rt, k_bk, k_ct, s_asg, s_asgF, s_asgT, k_asg, s_par, s_expr, s_iff, s_retN, s_raise, s_brk, s_cont, s_lams, s_pass, s_frz, k_frzO, k_frzV, s_retV, k_retO, k_retV, s_ret_non, s_ret_bl, s_ret_int, s_ret_str, s_ret_con, s_ret_bin, s_ret_neg, s_ret_cmp, s_ret_chain, s_ret_chain3, s_ret_lrng, s_ret_and, s_ret_or, s_ret_not, s_ret_ite, s_ret_tup, s_ret_lst, s_ret_idx, s_ret_slc, s_ret_call, s_ret_callK, s_ret_op0, s_ret_op1, s_ret_callM, s_ret_blt, s_ret_isx, s_ret_errs, s_ret_isk, s_ret_comp, s_app, k_runR, k_runN, for_nil, k_forN, k_forC, k_forB, k_forR, g_nm, g_tp, o_some, noErr_ret, Yes, retK, ret_bind, err_bind, bad_bind, draw_bind, getV, slOf, slO, setAll, parT, List.length_cons, List.length_nil, List.map_cons, List.map_nil, List.getElem?_cons_zero, List.getElem?_cons_succ, List.set_cons_zero, List.set_cons_succ, List.cons_append, List.nil_append, List.replicate_succ, List.replicate_zero, k, whB]
  | _ => cases h
theorem f4 {n : Nat} {d : D} (h : kd d = true) : callF tab WH (n + 1) 4 [d] = .ret (.bl (inD d)) := by
  show runD (callF tab WH n) WH d4 _ = _
  rw [run_eq rfl]
  simp only [d4, startE]
  cases d with
  | int i =>
    have k : bltT .isint [.int i] = .ret (.bl true) := rfl
    have k2 : bltT .isbool [.int i] = .ret (.bl false) := rfl
    simp only [e_non, e_bl, e_int, e_str, e_var, e_con, e_bin, e_neg, e_cmp, e_chain, e_chain3, e_lrng, e_and, e_or, e_not, e_ite, e_tup, e_lst, e_idx, e_slc, e_call, e_callK, e_blt, e_isk, e_caught, e_isx, e_must, e_errs, q_must, e_op0, e_op1, e_callM, b_op1, b_callM, i_callK, i_op1, o_emp, o_revT, b_var, b_cmp, b_chain, b_chain3, b_and, b_or, b_not, b_yes, b_call, b_callK, b_blt, b_isx, b_errs, b_isk, a_nil, a_cons, r_nil, r_cons, o_nopart, o_part, i_rng1, i_rng2, i_zip, i_enum, i_cap, i_var, i_blt, i_call, i_tup, i_lst, i_idx, i_slc, q_add, q_sub, q_neg, q_lt, q_le, q_gt, q_ge, q_eqI, q_neI, q_isNN, q_isNT, q_isNI, q_isNL, q_isBB, q_isNB, q_isNS, q_isnNN, q_isnNT, q_isnNI, q_isnNL, q_andT, q_andF, q_orT, q_orF, q_not, q_toB, q_part, q_fzI, q_fzB, q_fzS, q_fzN, q_fzT, q_fzL, q_fzW, q_fzSt, q_fzSc, s_nil, s_cons, k_nx, k_rt, k_bk, k_ct, s_asg, s_asgF, s_asgT, k_asg, s_par, s_expr, s_iff, s_retN, s_raise, s_brk, s_cont, s_lams, s_pass, s_frz, k_frzO, k_frzV, s_retV, k_retO, k_retV, s_ret_non, s_ret_bl, s_ret_int, s_ret_str, s_ret_con, s_ret_bin, s_ret_neg, s_ret_cmp, s_ret_chain, s_ret_chain3, s_ret_lrng, s_ret_and, s_ret_or, s_ret_not, s_ret_ite, s_ret_tup, s_ret_lst, s_ret_idx, s_ret_slc, s_ret_call, s_ret_callK, s_ret_op0, s_ret_op1, s_ret_callM, s_ret_blt, s_ret_isx, s_ret_errs, s_ret_isk, s_ret_comp, s_app, k_runR, k_runN, for_nil, k_forN, k_forC, k_forB, k_forR, g_nm, g_tp, o_some, noErr_ret, Yes, retK, ret_bind, err_bind, bad_bind, draw_bind, getV, slOf, slO, setAll, parT, List.length_cons, List.length_nil, List.map_cons, List.map_nil, List.getElem?_cons_zero, List.getElem?_cons_succ, List.set_cons_zero, List.set_cons_succ, List.cons_append, List.nil_append, List.replicate_succ, List.replicate_zero, k, k2, Bool.not_false, inD]
  | bl b =>
    have k : bltT .isint [.bl b] = .ret (.bl true) := rfl
    have k2 : bltT .isbool [.bl b] = .ret (.bl true) := rfl
    simp only [e_non, e_bl, e_int, e_str, e_var, e_con, e_bin, e_neg, e_cmp, e_chain, e_chain3, e_lrng, e_and, e_or, e_not, e_ite, e_tup, e_lst, e_idx, e_slc, e_call, e_callK, e_blt, e_isk, e_caught, e_isx, e_must, e_errs, q_must, e_op0, e_op1, e_callM, b_op1, b_callM, i_callK, i_op1, o_emp, o_revT, b_var, b_cmp, b_chain, b_chain3, b_and, b_or, b_not, b_yes, b_call, b_callK, b_blt, b_isx, b_errs, b_isk, a_nil, a_cons, r_nil, r_cons, o_nopart, o_part, i_rng1, i_rng2, i_zip, i_enum, i_cap, i_var, i_blt, i_call, i_tup, i_lst, i_idx, i_slc, q_add, q_sub, q_neg, q_lt, q_le, q_gt, q_ge, q_eqI, q_neI, q_isNN, q_isNT, q_isNI, q_isNL, q_isBB, q_isNB, q_isNS, q_isnNN, q_isnNT, q_isnNI, q_isnNL, q_andT, q_andF, q_orT, q_orF, q_not, q_toB, q_part, q_fzI, q_fzB, q_fzS, q_fzN, q_fzT, q_fzL, q_fzW, q_fzSt, q_fzSc, s_nil, s_cons, k_nx, k_rt, k_bk, k_ct, s_asg, s_asgF, s_asgT, k_asg, s_par, s_expr, s_iff, s_retN, s_raise, s_brk, s_cont, s_lams, s_pass, s_frz, k_frzO, k_frzV, s_retV, k_retO, k_retV, s_ret_non, s_ret_bl, s_ret_int, s_ret_str, s_ret_con, s_ret_bin, s_ret_neg, s_ret_cmp, s_ret_chain, s_ret_chain3, s_ret_lrng, s_ret_and, s_ret_or, s_ret_not, s_ret_ite, s_ret_tup, s_ret_lst, s_ret_idx, s_ret_slc, s_ret_call, s_ret_callK, s_ret_op0, s_ret_op1, s_ret_callM, s_ret_blt, s_ret_isx, s_ret_errs, s_ret_isk, s_ret_comp, s_app, k_runR, k_runN, for_nil, k_forN, k_forC, k_forB, k_forR, g_nm, g_tp, o_some, noErr_ret, Yes, retK, ret_bind, err_bind, bad_bind, draw_bind, getV, slOf, slO, setAll, parT, List.length_cons, List.length_nil, List.map_cons, List.map_nil, List.getElem?_cons_zero, List.getElem?_cons_succ, List.set_cons_zero, List.set_cons_succ, List.cons_append, List.nil_append, List.replicate_succ, List.replicate_zero, k, k2, Bool.not_true, inD]
  | non =>
    have k : bltT .isint [.non] = .ret (.bl false) := rfl
    simp only [e_non, e_bl, e_int, e_str, e_var, e_con, e_bin, e_neg, e_cmp, e_chain, e_chain3, e_lrng, e_and, e_or, e_not, e_ite, e_tup, e_lst, e_idx, e_slc, e_call, e_callK, e_blt, e_isk, e_caught, e_isx, e_must, e_errs, q_must, e_op0, e_op1, e_callM, b_op1, b_callM, i_callK, i_op1, o_emp, o_revT, b_var, b_cmp, b_chain, b_chain3, b_and, b_or, b_not, b_yes, b_call, b_callK, b_blt, b_isx, b_errs, b_isk, a_nil, a_cons, r_nil, r_cons, o_nopart, o_part, i_rng1, i_rng2, i_zip, i_enum, i_cap, i_var, i_blt, i_call, i_tup, i_lst, i_idx, i_slc, q_add, q_sub, q_neg, q_lt, q_le, q_gt, q_ge, q_eqI, q_neI, q_isNN, q_isNT, q_isNI, q_isNL, q_isBB, q_isNB, q_isNS, q_isnNN, q_isnNT, q_isnNI, q_isnNL, q_andT, q_andF, q_orT, q_orF, q_not, q_toB, q_part, q_fzI, q_fzB, q_fzS, q_fzN, q_fzT, q_fzL, q_fzW, q_fzSt, q_fzSc, s_nil, s_cons, k_nx, k_rt, k_bk, k_ct, s_asg, s_asgF, s_asgT, k_asg, s_par, s_expr, s_iff, s_retN, s_raise, s_brk, s_cont, s_lams, s_pass, s_frz, k_frzO, k_frzV, s_retV, k_retO, k_retV, s_ret_non, s_ret_bl, s_ret_int, s_ret_str, s_ret_con, s_ret_bin, s_ret_neg, s_ret_cmp, s_ret_chain, s_ret_chain3, s_ret_lrng, s_ret_and, s_ret_or, s_ret_not, s_ret_ite, s_ret_tup, s_ret_lst, s_ret_idx, s_ret_slc, s_ret_call, s_ret_callK, s_ret_op0, s_ret_op1, s_ret_callM, s_ret_blt, s_ret_isx, s_ret_errs, s_ret_isk, s_ret_comp, s_app, k_runR, k_runN, for_nil, k_forN, k_forC, k_forB, k_forR, g_nm, g_tp, o_some, noErr_ret, Yes, retK, ret_bind, err_bind, bad_bind, draw_bind, getV, slOf, slO, setAll, parT, List.length_cons, List.length_nil, List.map_cons, List.map_nil, List.getElem?_cons_zero, List.getElem?_cons_succ, List.set_cons_zero, List.set_cons_succ, List.cons_append, List.nil_append, List.replicate_succ, List.replicate_zero, k, inD]
  | str x =>
    have k : bltT .isint [.str x] = .ret (.bl false) := rfl
    simp only [e_non, e_bl, e_int, e_str, e_var, e_con, e_bin, e_neg, e_cmp, e_chain, e_chain3, e_lrng, e_and, e_or, e_not, e_ite, e_tup, e_lst, e_idx, e_slc, e_call, e_callK, e_blt, e_isk, e_caught, e_isx, e_must, e_errs, q_must, e_op0, e_op1, e_callM, b_op1, b_callM, i_callK, i_op1, o_emp, o_revT, b_var, b_cmp, b_chain, b_chain3, b_and, b_or, b_not, b_yes, b_call, b_callK, b_blt, b_isx, b_errs, b_isk, a_nil, a_cons, r_nil, r_cons, o_nopart, o_part, i_rng1, i_rng2, i_zip, i_enum, i_cap, i_var, i_blt, i_call, i_tup, i_lst, i_idx, i_slc, q_add, q_sub, q_neg, q_lt, q_le, q_gt, q_ge, q_eqI, q_neI, q_isNN, q_isNT, q_isNI, q_isNL, q_isBB, q_isNB, q_isNS, q_isnNN, q_isnNT, q_isnNI, q_isnNL, q_andT, q_andF, q_orT, q_orF, q_not, q_toB, q_part, q_fzI, q_fzB, q_fzS, q_fzN, q_fzT, q_fzL, q_fzW, q_fzSt, q_fzSc, s_nil, s_cons, k_nx, k_rt, k_bk, k_ct, s_asg, s_asgF, s_asgT, k_asg, s_par, s_expr, s_iff, s_retN, s_raise, s_brk, s_cont, s_lams, s_pass, s_frz, k_frzO, k_frzV, s_retV, k_retO, k_retV, s_ret_non, s_ret_bl, s_ret_int, s_ret_str, s_ret_con, s_ret_bin, s_ret_neg, s_ret_cmp, s_ret_chain, s_ret_chain3, s_ret_lrng, s_ret_and, s_ret_or, s_ret_not, s_ret_ite, s_ret_tup, s_ret_lst, s_ret_idx, s_ret_slc, s_ret_call, s_ret_callK, s_ret_op0, s_ret_op1, s_ret_callM, s_ret_blt, s_ret_isx, s_ret_errs, s_ret_isk, s_ret_comp, s_app, k_runR, k_runN, for_nil, k_forN, k_forC, k_forB, k_forR, g_nm, g_tp, o_some, noErr_ret, Yes, retK, ret_bind, err_bind, bad_bind, draw_bind, getV, slOf, slO, setAll, parT, List.length_cons, List.length_nil, List.map_cons, List.map_nil, List.getElem?_cons_zero, List.getElem?_cons_succ, List.set_cons_zero, List.set_cons_succ, List.cons_append, List.nil_append, List.replicate_succ, List.replicate_zero, k, inD]
  | tup x =>
    have k : bltT .isint [.tup x] = .ret (.bl false) := rfl
    simp only [e_non, e_bl, e_int, e_str, e_var, e_con, e_bin, e_neg, e_cmp, e_chain, e_chain3, e_lrng, e_and, e_or, e_not, e_ite, e_tup, e_lst, e_idx, e_slc, e_call, e_callK, e_blt, e_isk, e_caught, e_isx, e_must, e_errs, q_must, e_op0, e_op1, e_callM, b_op1, b_callM, i_callK, i_op1, o_emp, o_revT, b_var, b_cmp, b_chain, b_chain3, b_and, b_or, b_not, b_yes, b_call, b_callK, b_blt, b_isx, b_errs, b_isk, a_nil, a_cons, r_nil, r_cons, o_nopart, o_part, i_rng1, i_rng2, i_zip, i_enum, i_cap, i_var, i_blt, i_call, i_tup, i_lst, i_idx, i_slc, q_add, q_sub, q_neg, q_lt, q_le, q_gt, q_ge, q_eqI, q_neI, q_isNN, q_isNT, q_isNI, q_isNL, q_isBB, q_isNB, q_isNS, q_isnNN, q_isnNT, q_isnNI, q_isnNL, q_andT, q_andF, q_orT, q_orF, q_not, q_toB, q_part, q_fzI, q_fzB, q_fzS, q_fzN, q_fzT, q_fzL, q_fzW, q_fzSt, q_fzSc, s_nil, s_cons, k_nx, k_rt, k_bk, k_ct, s_asg, s_asgF, s_asgT, k_asg, s_par, s_expr, s_iff, s_retN, s_raise, s_brk, s_cont, s_lams, s_pass, s_frz, k_frzO, k_frzV, s_retV, k_retO, k_retV, s_ret_non, s_ret_bl, s_ret_int, s_ret_str, s_ret_con, s_ret_bin, s_ret_neg, s_ret_cmp, s_ret_chain, s_ret_chain3, s_ret_lrng, s_ret_and, s_ret_or, s_ret_not, s_ret_ite, s_ret_tup, s_ret_lst, s_ret_idx, s_ret_slc, s_ret_call, s_ret_callK, s_ret_op0, s_ret_op1, s_ret_callM, s_ret_blt, s_ret_isx, s_ret_errs, s_ret_isk, s_ret_comp, s_app, k_runR, k_runN, for_nil, k_forN, k_forC, k_forB, k_forR, g_nm, g_tp, o_some, noErr_ret, Yes, retK, ret_bind, err_bind, bad_bind, draw_bind, getV, slOf, slO, setAll, parT, List.length_cons, List.length_nil, List.map_cons, List.map_nil, List.getElem?_cons_zero, List.getElem?_cons_succ, List.set_cons_zero, List.set_cons_succ, List.cons_append, List.nil_append, List.replicate_succ, List.replicate_zero, k, inD]
  | lst x =>
    have k : bltT .isint [.lst x] = .ret (.bl false) := rfl
    simp only [e_non, e_bl, e_int, e_str, e_var, e_con, e_bin, e_neg, e_cmp, e_chain, e_chain3, e_lrng, e_and, e_or, e_not, e_ite, e_tup, e_lst, e_idx, e_slc, e_call, e_callK, e_blt, e_isk, e_caught, e_isx, e_must, e_errs, q_must, e_op0, e_op1, e_callM, b_op1, b_callM, i_callK, i_op1, o_emp, o_revT, b_var, b_cmp, b_chain, b_chain3, b_and, b_or, b_not, b_yes, b_call, b_callK, b_blt, b_isx, b_errs, b_isk, a_nil, a_cons, r_nil, r_cons, o_nopart, o_part, i_rng1, i_rng2, i_zip, i_enum, i_cap, i_var, i_blt, i_call, i_tup, i_lst, i_idx, i_slc, q_add, q_sub, q_neg, q_lt, q_le, q_gt, q_ge, q_eqI, q_neI, q_isNN, q_isNT, q_isNI, q_isNL, q_isBB, q_isNB, q_isNS, q_isnNN, q_isnNT, q_isnNI, q_isnNL, q_andT, q_andF, q_orT, q_orF, q_not, q_toB, q_part, q_fzI, q_fzB, q_fzS, q_fzN, q_fzT, q_fzL, q_fzW, q_fzSt, q_fzSc, s_nil, s_cons, k_nx, k_rt, k_bk, k_ct, s_asg, s_asgF, s_asgT, k_asg, s_par, s_expr, s_iff, s_retN, s_raise, s_brk, s_cont, s_lams, s_pass, s_frz, k_frzO, k_frzV, s_retV, k_retO, k_retV, s_ret_non, s_ret_bl, s_ret_int, s_ret_str, s_ret_con, s_ret_bin, s_ret_neg, s_ret_cmp, s_ret_chain, s_ret_chain3, s_ret_lrng, s_ret_and, s_ret_or, s_ret_not, s_ret_ite, s_ret_tup, s_ret_lst, s_ret_idx, s_ret_slc, s_ret_call, s_ret_callK, s_ret_op0, s_ret_op1, s_ret_callM, s_ret_blt, s_ret_isx, s_ret_errs, s_ret_isk, s_ret_comp, s_app, k_runR, k_runN, for_nil, k_forN, k_forC, k_forB, k_forR, g_nm, g_tp, o_some, noErr_ret, Yes, retK, ret_bind, err_bind, bad_bind, draw_bind, getV, slOf, slO, setAll, parT, List.length_cons, List.length_nil, List.map_cons, List.map_nil, List.getElem?_cons_zero, List.getElem?_cons_succ, List.set_cons_zero, List.set_cons_succ, List.cons_append, List.nil_append, List.replicate_succ, List.replicate_zero, k, inD]
  | _ => cases h
theorem yes_then {α β : Type} {P : α → Prop} {V : β → Prop} {f : α → T β} {t : T α} (h : Yes P t) (H : ∀ x, P x → Yes V (f x)) : Yes V (t >>= f) := ⟨all0_bind.mpr (All0.mono h.all (fun x q => (H x q).all) fun _ e => e)⟩
theorem yes_draw {α : Type} {V : α → Prop} {n : Int} {f : Int → T α} (H : ∀ d, 0 ≤ d → d < n → Yes V (f d)) : Yes V (.draw n f) := ⟨fun d h0 h1 => (H d h0 h1).all⟩
theorem yes_ret {α : Type} {V : α → Prop} {x : α} (h : V x) : Yes V (.ret x) := ⟨h⟩
theorem min_int {i j : Int} : bltT .min [.int i, .int j] = .ret (.int (min i j)) := by
  show T.ret (D.int (if j < i then j else i)) = _
  congr 2
  omega
theorem max_int {i j : Int} : bltT .max [.int i, .int j] = .ret (.int (max i j)) := by
  show T.ret (D.int (if j > i then j else i)) = _
  congr 2
  omega
theorem ix20 {a b : D} : idxT (.tup [a, b]) (.int 0) = .ret a := rfl
theorem ix21 {a b : D} : idxT (.tup [a, b]) (.int 1) = .ret b := rfl
theorem ix30 {a b c : D} : idxT (.tup [a, b, c]) (.int 0) = .ret a := rfl
theorem ix31 {a b c : D} : idxT (.tup [a, b, c]) (.int 1) = .ret b := rfl
theorem ix32 {a b c : D} : idxT (.tup [a, b, c]) (.int 2) = .ret c := rfl
theorem ix50 {a b c d e : D} : idxT (.tup [a, b, c, d, e]) (.int 0) = .ret a := rfl
theorem ix51 {a b c d e : D} : idxT (.tup [a, b, c, d, e]) (.int 1) = .ret b := rfl
theorem ix52 {a b c d e : D} : idxT (.tup [a, b, c, d, e]) (.int 2) = .ret c := rfl
theorem ix53 {a b c d e : D} : idxT (.tup [a, b, c, d, e]) (.int 3) = .ret d := rfl
theorem ix54 {a b c d e : D} : idxT (.tup [a, b, c, d, e]) (.int 4) = .ret e := rfl
theorem t5 {a b c d e : D} : lenT [a, b, c, d, e] (.tup [a, b, c, d, e]) = .ret (.tup [a, b, c, d, e]) := rfl
def potD (f c : Int) : D := .tup [.int f, .int c]
def stD (s : St) : D := .tup [.int s.e, .int s.a, .int s.b, .int s.l, .int s.u]
def i3D (x : I3) : D := .tup [.int x.1, .int x.2.1, .int x.2.2]
structure Pot (f c : Int) : Prop where
  lt : f < c
  f0 : -1000000000000000 < f
  c0 : c < 1000000000000000
def t2_1 : S := .cons (.ret (.and (.blt .all (.cons (.comp (.nm 1) (.var 0) .yes (.and (.call 1 (.cons (.var 1) .nil)) (.cmp .lt (.blt .abs (.cons (.var 1) .nil)) (.con "MOST_POT" 1000000000000000))) [("item", 1)]) .nil)) (.cmp .lt (.idx (.var 0) (.int 0)) (.idx (.var 0) (.int 1))))) .nil
def t2_0 : S := .cons (.iff (.or (.not (.isk .istup (.var 0))) (.cmp .ne (.blt .len (.cons (.var 0) .nil)) (.int 2))) (.cons (.ret (.bl false)) .nil) .nil) t2_1
theorem body2 : d2.body = t2_0 := rfl
theorem abs_i {i : Int} : bltT .abs [.int i] = .ret (.int (if i < 0 then -i else i)) := rfl
theorem all2 {a b : Bool} : bltT .all [.new [.bl a, .bl b]] = .ret (.bl (a && b)) := by
  cases a <;> cases b <;> rfl
theorem f2i {k : Nat → List D → T D} {f c : Int} (e1 : k 1 [.int f] = .ret (.bl true)) (e2 : k 1 [.int c] = .ret (.bl true)) (h1 : decide ((if f < 0 then -f else f) < 1000000000000000) = true) (h2 : decide ((if c < 0 then -c else c) < 1000000000000000) = true) (h3 : decide (f < c) = true) :
    (ex k WH d2.body (startE d2.N [potD f c]) >>= runK) = .ret (.bl true) := by
  have hcm : compL (compF (.nm 1) [1] (evs k .yes).B (evs k (.and (.call 1 (.cons (.var 1) .nil)) (.cmp .lt (.blt .abs (.cons (.var 1) .nil)) (.con "MOST_POT" 1000000000000000)))).E [.val (potD f c), .un]) [.int f, .int c] = .ret [.bl true, .bl true] := by
    rw [comp_map (f := fun _ => .bl true)]
    · rfl
    · intro d hd
      simp only [List.mem_cons, List.not_mem_nil, or_false] at hd
      rcases hd with rfl | rfl
      · simp only [compF_eq, wipeE, e_non, e_bl, e_int, e_str, e_var, e_con, e_bin, e_neg, e_cmp, e_chain, e_chain3, e_lrng, e_and, e_or, e_not, e_ite, e_tup, e_lst, e_idx, e_slc, e_call, e_callK, e_blt, e_isk, e_caught, e_isx, e_must, e_errs, q_must, e_op0, e_op1, e_callM, b_op1, b_callM, i_callK, i_op1, o_emp, o_revT, b_var, b_cmp, b_chain, b_chain3, b_and, b_or, b_not, b_yes, b_call, b_callK, b_blt, b_isx, b_errs, b_isk, a_nil, a_cons, r_nil, r_cons, o_nopart, o_part, i_rng1, i_rng2, i_zip, i_enum, i_cap, i_var, i_blt, i_call, i_tup, i_lst, i_idx, i_slc, q_add, q_sub, q_neg, q_lt, q_le, q_gt, q_ge, q_eqI, q_neI, q_isNN, q_isNT, q_isNI, q_isNL, q_isBB, q_isNB, q_isNS, q_isnNN, q_isnNT, q_isnNI, q_isnNL, q_andT, q_andF, q_orT, q_orF, q_not, q_toB, q_part, q_fzI, q_fzB, q_fzS, q_fzN, q_fzT, q_fzL, q_fzW, q_fzSt, q_fzSc, s_nil, s_cons, k_nx, k_rt, k_bk, k_ct, s_asg, s_asgF, s_asgT, k_asg, s_par, s_expr, s_iff, s_retN, s_raise, s_brk, s_cont, s_lams, s_pass, s_frz, k_frzO, k_frzV, s_retV, k_retO, k_retV, s_ret_non, s_ret_bl, s_ret_int, s_ret_str, s_ret_con, s_ret_bin, s_ret_neg, s_ret_cmp, s_ret_chain, s_ret_chain3, s_ret_lrng, s_ret_and, s_ret_or, s_ret_not, s_ret_ite, s_ret_tup, s_ret_lst, s_ret_idx, s_ret_slc, s_ret_call, s_ret_callK, s_ret_op0, s_ret_op1, s_ret_callM, s_ret_blt, s_ret_isx, s_ret_errs, s_ret_isk, s_ret_comp, s_app, k_runR, k_runN, for_nil, k_forN, k_forC, k_forB, k_forR, g_nm, g_tp, o_some, noErr_ret, Yes, retK, ret_bind, err_bind, bad_bind, draw_bind, getV, slOf, slO, setAll, parT, List.length_cons, List.length_nil, List.map_cons, List.map_nil, List.getElem?_cons_zero, List.getElem?_cons_succ, List.set_cons_zero, List.set_cons_succ, List.cons_append, List.nil_append, List.replicate_succ, List.replicate_zero, e1, abs_i, h1, if_true]
      · simp only [compF_eq, wipeE, e_non, e_bl, e_int, e_str, e_var, e_con, e_bin, e_neg, e_cmp, e_chain, e_chain3, e_lrng, e_and, e_or, e_not, e_ite, e_tup, e_lst, e_idx, e_slc, e_call, e_callK, e_blt, e_isk, e_caught, e_isx, e_must, e_errs, q_must, e_op0, e_op1, e_callM, b_op1, b_callM, i_callK, i_op1, o_emp, o_revT, b_var, b_cmp, b_chain, b_chain3, b_and, b_or, b_not, b_yes, b_call, b_callK, b_blt, b_isx, b_errs, b_isk, a_nil, a_cons, r_nil, r_cons, o_nopart, o_part, i_rng1, i_rng2, i_zip, i_enum, i_cap, i_var, i_blt, i_call, i_tup, i_lst, i_idx, i_slc, q_add, q_sub, q_neg, q_lt, q_le, q_gt, q_ge, q_eqI, q_neI, q_isNN, q_isNT, q_isNI, q_isNL, q_isBB, q_isNB, q_isNS, q_isnNN, q_isnNT, q_isnNI, q_isnNL, q_andT, q_andF, q_orT, q_orF, q_not, q_toB, q_part, q_fzI, q_fzB, q_fzS, q_fzN, q_fzT, q_fzL, q_fzW, q_fzSt, q_fzSc, s_nil, s_cons, k_nx, k_rt, k_bk, k_ct, s_asg, s_asgF, s_asgT, k_asg, s_par, s_expr, s_iff, s_retN, s_raise, s_brk, s_cont, s_lams, s_pass, s_frz, k_frzO, k_frzV, s_retV, k_retO, k_retV, s_ret_non, s_ret_bl, s_ret_int, s_ret_str, s_ret_con, s_ret_bin, s_ret_neg, s_ret_cmp, s_ret_chain, s_ret_chain3, s_ret_lrng, s_ret_and, s_ret_or, s_ret_not, s_ret_ite, s_ret_tup, s_ret_lst, s_ret_idx, s_ret_slc, s_ret_call, s_ret_callK, s_ret_op0, s_ret_op1, s_ret_callM, s_ret_blt, s_ret_isx, s_ret_errs, s_ret_isk, s_ret_comp, s_app, k_runR, k_runN, for_nil, k_forN, k_forC, k_forB, k_forR, g_nm, g_tp, o_some, noErr_ret, Yes, retK, ret_bind, err_bind, bad_bind, draw_bind, getV, slOf, slO, setAll, parT, List.length_cons, List.length_nil, List.map_cons, List.map_nil, List.getElem?_cons_zero, List.getElem?_cons_succ, List.set_cons_zero, List.set_cons_succ, List.cons_append, List.nil_append, List.replicate_succ, List.replicate_zero, e2, abs_i, h2, if_true]
  have k1 : bltT .istup [potD f c] = .ret (.bl true) := rfl
  have k2 : bltT .len [potD f c] = .ret (.int 2) := rfl
  have k5 : frozen (potD f c) = some [.int f, .int c] := rfl
  have i0 : idxT (potD f c) (.int 0) = .ret (.int f) := rfl
  have i1 : idxT (potD f c) (.int 1) = .ret (.int c) := rfl
  rw [body2]
  simp only [d2, startE]
  unfold t2_0
  simp only [e_non, e_bl, e_int, e_str, e_var, e_con, e_bin, e_neg, e_cmp, e_chain, e_chain3, e_lrng, e_and, e_or, e_not, e_ite, e_tup, e_lst, e_idx, e_slc, e_call, e_callK, e_blt, e_isk, e_caught, e_isx, e_must, e_errs, q_must, e_op0, e_op1, e_callM, b_op1, b_callM, i_callK, i_op1, o_emp, o_revT, b_var, b_cmp, b_chain, b_chain3, b_and, b_or, b_not, b_yes, b_call, b_callK, b_blt, b_isx, b_errs, b_isk, a_nil, a_cons, r_nil, r_cons, o_nopart, o_part, i_rng1, i_rng2, i_zip, i_enum, i_cap, i_var, i_blt, i_call, i_tup, i_lst, i_idx, i_slc, q_add, q_sub, q_neg, q_lt, q_le, q_gt, q_ge, q_eqI, q_neI, q_isNN, q_isNT, q_isNI, q_isNL, q_isBB, q_isNB, q_isNS, q_isnNN, q_isnNT, q_isnNI, q_isnNL, q_andT, q_andF, q_orT, q_orF, q_not, q_toB, q_part, q_fzI, q_fzB, q_fzS, q_fzN, q_fzT, q_fzL, q_fzW, q_fzSt, q_fzSc, s_nil, s_cons, k_nx, k_rt, k_bk, k_ct, s_asg, s_asgF, s_asgT, k_asg, s_par, s_expr, s_iff, s_retN, s_raise, s_brk, s_cont, s_lams, s_pass, s_frz, k_frzO, k_frzV, s_retV, k_retO, k_retV, s_ret_non, s_ret_bl, s_ret_int, s_ret_str, s_ret_con, s_ret_bin, s_ret_neg, s_ret_cmp, s_ret_chain, s_ret_chain3, s_ret_lrng, s_ret_and, s_ret_or, s_ret_not, s_ret_ite, s_ret_tup, s_ret_lst, s_ret_idx, s_ret_slc, s_ret_call, s_ret_callK, s_ret_op0, s_ret_op1, s_ret_callM, s_ret_blt, s_ret_isx, s_ret_errs, s_ret_isk, s_ret_comp, s_app, k_runR, k_runN, for_nil, k_forN, k_forC, k_forB, k_forR, g_nm, g_tp, o_some, noErr_ret, Yes, retK, ret_bind, err_bind, bad_bind, draw_bind, getV, slOf, slO, setAll, parT, List.length_cons, List.length_nil, List.map_cons, List.map_nil, List.getElem?_cons_zero, List.getElem?_cons_succ, List.set_cons_zero, List.set_cons_succ, List.cons_append, List.nil_append, List.replicate_succ, List.replicate_zero, k1, k2, Bool.not_true, decide_true, Bool.false_eq_true, if_false]
  unfold t2_1
  simp only [e_non, e_bl, e_int, e_str, e_var, e_con, e_bin, e_neg, e_cmp, e_chain, e_chain3, e_lrng, e_and, e_or, e_not, e_ite, e_tup, e_lst, e_idx, e_slc, e_call, e_callK, e_blt, e_isk, e_caught, e_isx, e_must, e_errs, q_must, e_op0, e_op1, e_callM, b_op1, b_callM, i_callK, i_op1, o_emp, o_revT, b_var, b_cmp, b_chain, b_chain3, b_and, b_or, b_not, b_yes, b_call, b_callK, b_blt, b_isx, b_errs, b_isk, a_nil, a_cons, r_nil, r_cons, o_nopart, o_part, i_rng1, i_rng2, i_zip, i_enum, i_cap, i_var, i_blt, i_call, i_tup, i_lst, i_idx, i_slc, q_add, q_sub, q_neg, q_lt, q_le, q_gt, q_ge, q_eqI, q_neI, q_isNN, q_isNT, q_isNI, q_isNL, q_isBB, q_isNB, q_isNS, q_isnNN, q_isnNT, q_isnNI, q_isnNL, q_andT, q_andF, q_orT, q_orF, q_not, q_toB, q_part, q_fzI, q_fzB, q_fzS, q_fzN, q_fzT, q_fzL, q_fzW, q_fzSt, q_fzSc, s_nil, s_cons, k_nx, k_rt, k_bk, k_ct, s_asg, s_asgF, s_asgT, k_asg, s_par, s_expr, s_iff, s_retN, s_raise, s_brk, s_cont, s_lams, s_pass, s_frz, k_frzO, k_frzV, s_retV, k_retO, k_retV, s_ret_non, s_ret_bl, s_ret_int, s_ret_str, s_ret_con, s_ret_bin, s_ret_neg, s_ret_cmp, s_ret_chain, s_ret_chain3, s_ret_lrng, s_ret_and, s_ret_or, s_ret_not, s_ret_ite, s_ret_tup, s_ret_lst, s_ret_idx, s_ret_slc, s_ret_call, s_ret_callK, s_ret_op0, s_ret_op1, s_ret_callM, s_ret_blt, s_ret_isx, s_ret_errs, s_ret_isk, s_ret_comp, s_app, k_runR, k_runN, for_nil, k_forN, k_forC, k_forB, k_forR, g_nm, g_tp, o_some, noErr_ret, Yes, retK, ret_bind, err_bind, bad_bind, draw_bind, getV, slOf, slO, setAll, parT, List.length_cons, List.length_nil, List.map_cons, List.map_nil, List.getElem?_cons_zero, List.getElem?_cons_succ, List.set_cons_zero, List.set_cons_succ, List.cons_append, List.nil_append, List.replicate_succ, List.replicate_zero, e_comp, k5, hcm, noErr_ret, all2, i0, i1, h3, Bool.and_self]
theorem f2 {n : Nat} {f c : Int} (h : Pot f c) : callF tab WH (n + 2) 2 [potD f c] = .ret (.bl true) := by
  obtain ⟨h1, h2, h3⟩ := h
  have w : ∀ i : Int, -1000000000000000 < i → i < 1000000000000000 → whB (.int i) = true := fun i a b => by
    show (decide (-1000000000000000000 < i) && decide (i < 1000000000000000000)) = true
    rw [decide_eq_true (show -1000000000000000000 < i by omega), decide_eq_true (show i < 1000000000000000000 by omega)]
    rfl
  have e1 := f1 (n := n) (d := .int f) rfl
  have e2 := f1 (n := n) (d := .int c) rfl
  rw [w f h2 (by omega)] at e1
  rw [w c (by omega) h3] at e2
  show runD (callF tab WH (n + 1)) WH d2 _ = _
  rw [run_eq rfl]
  refine f2i e1 e2 (decide_eq_true ?_) (decide_eq_true ?_) (decide_eq_true h1)
  · split <;> omega
  · split <;> omega
theorem f3 {n : Nat} {f c : Int} (h : Pot f c) : callF tab WH (n + 3) 3 [potD f c] = .ret .non := by
  show runD (callF tab WH (n + 2)) WH d3 _ = _
  rw [run_eq rfl]
  have e := f2 (n := n) h
  have fz1 : fz (potD f c) = .ret (potD f c) := rfl
  simp only [d3, startE]
  simp only [e_non, e_bl, e_int, e_str, e_var, e_con, e_bin, e_neg, e_cmp, e_chain, e_chain3, e_lrng, e_and, e_or, e_not, e_ite, e_tup, e_lst, e_idx, e_slc, e_call, e_callK, e_blt, e_isk, e_caught, e_isx, e_must, e_errs, q_must, e_op0, e_op1, e_callM, b_op1, b_callM, i_callK, i_op1, o_emp, o_revT, b_var, b_cmp, b_chain, b_chain3, b_and, b_or, b_not, b_yes, b_call, b_callK, b_blt, b_isx, b_errs, b_isk, a_nil, a_cons, r_nil, r_cons, o_nopart, o_part, i_rng1, i_rng2, i_zip, i_enum, i_cap, i_var, i_blt, i_call, i_tup, i_lst, i_idx, i_slc, q_add, q_sub, q_neg, q_lt, q_le, q_gt, q_ge, q_eqI, q_neI, q_isNN, q_isNT, q_isNI, q_isNL, q_isBB, q_isNB, q_isNS, q_isnNN, q_isnNT, q_isnNI, q_isnNL, q_andT, q_andF, q_orT, q_orF, q_not, q_toB, q_part, q_fzI, q_fzB, q_fzS, q_fzN, q_fzT, q_fzL, q_fzW, q_fzSt, q_fzSc, s_nil, s_cons, k_nx, k_rt, k_bk, k_ct, s_asg, s_asgF, s_asgT, k_asg, s_par, s_expr, s_iff, s_retN, s_raise, s_brk, s_cont, s_lams, s_pass, s_frz, k_frzO, k_frzV, s_retV, k_retO, k_retV, s_ret_non, s_ret_bl, s_ret_int, s_ret_str, s_ret_con, s_ret_bin, s_ret_neg, s_ret_cmp, s_ret_chain, s_ret_chain3, s_ret_lrng, s_ret_and, s_ret_or, s_ret_not, s_ret_ite, s_ret_tup, s_ret_lst, s_ret_idx, s_ret_slc, s_ret_call, s_ret_callK, s_ret_op0, s_ret_op1, s_ret_callM, s_ret_blt, s_ret_isx, s_ret_errs, s_ret_isk, s_ret_comp, s_app, k_runR, k_runN, for_nil, k_forN, k_forC, k_forB, k_forR, g_nm, g_tp, o_some, noErr_ret, Yes, retK, ret_bind, err_bind, bad_bind, draw_bind, getV, slOf, slO, setAll, parT, List.length_cons, List.length_nil, List.map_cons, List.map_nil, List.getElem?_cons_zero, List.getElem?_cons_succ, List.set_cons_zero, List.set_cons_succ, List.cons_append, List.nil_append, List.replicate_succ, List.replicate_zero, fz1, e, Bool.not_true, Bool.false_eq_true, if_false]
/-! stretches -/
def t5_4 : S := .cons (.ret (.and (.cmp .ge (.var 5) (.int 0)) (.and (.cmp .ge (.var 6) (.int 0)) (.or (.cmp .eq (.var 3) (.var 4)) (.cmp .eq (.bin .add (.var 5) (.var 6)) (.int 0)))))) .nil
def t5_3 : S := .cons (.iff (.or (.not (.chain3 .le .le .le (.idx (.var 0) (.int 0)) (.var 3) (.var 4) (.idx (.var 0) (.int 1)))) (.or (.cmp .lt (.var 2) (.idx (.var 0) (.int 0))) (.cmp .gt (.bin .sub (.bin .add (.var 2) (.var 4)) (.var 3)) (.idx (.var 0) (.int 1))))) (.cons (.ret (.bl false)) .nil) .nil) t5_4
def t5_2 : S := .cons (.asgT [2, 3, 4, 5, 6] (.var 1)) t5_3
def t5_1 : S := .cons (.iff (.or (.not (.isk .istup (.var 1))) (.or (.cmp .ne (.blt .len (.cons (.var 1) .nil)) (.int 5)) (.not (.blt .all (.cons (.comp (.nm 7) (.var 1) .yes (.call 4 (.cons (.var 7) .nil)) [("item", 7)]) .nil))))) (.cons (.ret (.bl false)) .nil) .nil) t5_2
def t5_0 : S := .cons (.expr (.call 3 (.cons (.var 0) .nil))) t5_1
theorem body5 : d5.body = t5_0 := rfl
theorem comp5 {k : Nat → List D → T D} {r0 r1 r2 r3 r4 r5 r6 : Sl} (e4 : ∀ d, kd d = true → k 4 [d] = .ret (.bl (inD d))) (ds : List D) (h : ∀ d ∈ ds, kd d = true) : compL (compF (.nm 7) [7] (evs k .yes).B (evs k (.call 4 (.cons (.var 7) .nil))).E [r0, r1, r2, r3, r4, r5, r6, .un]) ds = .ret (ds.map fun d => .bl (inD d)) := by
  refine comp_map fun d hd => ?_
  have e := e4 d (h d hd)
  have fz := kd_fz (h d hd)
  simp only [compF_eq, wipeE, e_non, e_bl, e_int, e_str, e_var, e_con, e_bin, e_neg, e_cmp, e_chain, e_chain3, e_lrng, e_and, e_or, e_not, e_ite, e_tup, e_lst, e_idx, e_slc, e_call, e_callK, e_blt, e_isk, e_caught, e_isx, e_must, e_errs, q_must, e_op0, e_op1, e_callM, b_op1, b_callM, i_callK, i_op1, o_emp, o_revT, b_var, b_cmp, b_chain, b_chain3, b_and, b_or, b_not, b_yes, b_call, b_callK, b_blt, b_isx, b_errs, b_isk, a_nil, a_cons, r_nil, r_cons, o_nopart, o_part, i_rng1, i_rng2, i_zip, i_enum, i_cap, i_var, i_blt, i_call, i_tup, i_lst, i_idx, i_slc, q_add, q_sub, q_neg, q_lt, q_le, q_gt, q_ge, q_eqI, q_neI, q_isNN, q_isNT, q_isNI, q_isNL, q_isBB, q_isNB, q_isNS, q_isnNN, q_isnNT, q_isnNI, q_isnNL, q_andT, q_andF, q_orT, q_orF, q_not, q_toB, q_part, q_fzI, q_fzB, q_fzS, q_fzN, q_fzT, q_fzL, q_fzW, q_fzSt, q_fzSc, s_nil, s_cons, k_nx, k_rt, k_bk, k_ct, s_asg, s_asgF, s_asgT, k_asg, s_par, s_expr, s_iff, s_retN, s_raise, s_brk, s_cont, s_lams, s_pass, s_frz, k_frzO, k_frzV, s_retV, k_retO, k_retV, s_ret_non, s_ret_bl, s_ret_int, s_ret_str, s_ret_con, s_ret_bin, s_ret_neg, s_ret_cmp, s_ret_chain, s_ret_chain3, s_ret_lrng, s_ret_and, s_ret_or, s_ret_not, s_ret_ite, s_ret_tup, s_ret_lst, s_ret_idx, s_ret_slc, s_ret_call, s_ret_callK, s_ret_op0, s_ret_op1, s_ret_callM, s_ret_blt, s_ret_isx, s_ret_errs, s_ret_isk, s_ret_comp, s_app, k_runR, k_runN, for_nil, k_forN, k_forC, k_forB, k_forR, g_nm, g_tp, o_some, noErr_ret, Yes, retK, ret_bind, err_bind, bad_bind, draw_bind, getV, slOf, slO, setAll, parT, List.length_cons, List.length_nil, List.map_cons, List.map_nil, List.getElem?_cons_zero, List.getElem?_cons_succ, List.set_cons_zero, List.set_cons_succ, List.cons_append, List.nil_append, List.replicate_succ, List.replicate_zero, fz, e, if_true]
theorem f5i {k : Nat → List D → T D} {f c e a b l u : Int} {g : Bool} (e3 : k 3 [potD f c] = .ret .non) (e4 : ∀ d, kd d = true → k 4 [d] = .ret (.bl (inD d))) : ex k WH d5.body (startE d5.N [potD f c, .tup [.int e, .int a, .int b, .int l, .int u]]) = ex k WH t5_3 [.val (potD f c), .val (.tup [.int e, .int a, .int b, .int l, .int u]), .val (.int e), .val (.int a), .val (.int b), .val (.int l), .val (.int u), .un] := by
  have hcm := comp5 (r0 := .val (potD f c)) (r1 := .val (.tup [.int e, .int a, .int b, .int l, .int u])) (r2 := .un) (r3 := .un) (r4 := .un) (r5 := .un) (r6 := .un) e4 [.int e, .int a, .int b, .int l, .int u] (by
    intro d hd
    simp only [List.mem_cons, List.not_mem_nil, or_false] at hd
    rcases hd with rfl | rfl | rfl | rfl | rfl <;> rfl)
  simp only [List.map_cons, List.map_nil, inD] at hcm
  have k1 : bltT .istup [.tup [.int e, .int a, .int b, .int l, .int u]] = .ret (.bl true) := rfl
  have k2 : bltT .len [.tup [.int e, .int a, .int b, .int l, .int u]] = .ret (.int 5) := rfl
  have k3 : bltT .all [.new [.bl true, .bl true, .bl true, .bl true, .bl true]] = .ret (.bl true) := rfl
  have k5 : frozen (.tup [.int e, .int a, .int b, .int l, .int u]) = some [.int e, .int a, .int b, .int l, .int u] := rfl
  have fz1 : fz (potD f c) = .ret (potD f c) := rfl
  rw [body5]
  simp only [d5, startE]
  unfold t5_0
  simp only [e_non, e_bl, e_int, e_str, e_var, e_con, e_bin, e_neg, e_cmp, e_chain, e_chain3, e_lrng, e_and, e_or, e_not, e_ite, e_tup, e_lst, e_idx, e_slc, e_call, e_callK, e_blt, e_isk, e_caught, e_isx, e_must, e_errs, q_must, e_op0, e_op1, e_callM, b_op1, b_callM, i_callK, i_op1, o_emp, o_revT, b_var, b_cmp, b_chain, b_chain3, b_and, b_or, b_not, b_yes, b_call, b_callK, b_blt, b_isx, b_errs, b_isk, a_nil, a_cons, r_nil, r_cons, o_nopart, o_part, i_rng1, i_rng2, i_zip, i_enum, i_cap, i_var, i_blt, i_call, i_tup, i_lst, i_idx, i_slc, q_add, q_sub, q_neg, q_lt, q_le, q_gt, q_ge, q_eqI, q_neI, q_isNN, q_isNT, q_isNI, q_isNL, q_isBB, q_isNB, q_isNS, q_isnNN, q_isnNT, q_isnNI, q_isnNL, q_andT, q_andF, q_orT, q_orF, q_not, q_toB, q_part, q_fzI, q_fzB, q_fzS, q_fzN, q_fzT, q_fzL, q_fzW, q_fzSt, q_fzSc, s_nil, s_cons, k_nx, k_rt, k_bk, k_ct, s_asg, s_asgF, s_asgT, k_asg, s_par, s_expr, s_iff, s_retN, s_raise, s_brk, s_cont, s_lams, s_pass, s_frz, k_frzO, k_frzV, s_retV, k_retO, k_retV, s_ret_non, s_ret_bl, s_ret_int, s_ret_str, s_ret_con, s_ret_bin, s_ret_neg, s_ret_cmp, s_ret_chain, s_ret_chain3, s_ret_lrng, s_ret_and, s_ret_or, s_ret_not, s_ret_ite, s_ret_tup, s_ret_lst, s_ret_idx, s_ret_slc, s_ret_call, s_ret_callK, s_ret_op0, s_ret_op1, s_ret_callM, s_ret_blt, s_ret_isx, s_ret_errs, s_ret_isk, s_ret_comp, s_app, k_runR, k_runN, for_nil, k_forN, k_forC, k_forB, k_forR, g_nm, g_tp, o_some, noErr_ret, Yes, retK, ret_bind, err_bind, bad_bind, draw_bind, getV, slOf, slO, setAll, parT, List.length_cons, List.length_nil, List.map_cons, List.map_nil, List.getElem?_cons_zero, List.getElem?_cons_succ, List.set_cons_zero, List.set_cons_succ, List.cons_append, List.nil_append, List.replicate_succ, List.replicate_zero, fz1, e3]
  unfold t5_1
  simp only [e_non, e_bl, e_int, e_str, e_var, e_con, e_bin, e_neg, e_cmp, e_chain, e_chain3, e_lrng, e_and, e_or, e_not, e_ite, e_tup, e_lst, e_idx, e_slc, e_call, e_callK, e_blt, e_isk, e_caught, e_isx, e_must, e_errs, q_must, e_op0, e_op1, e_callM, b_op1, b_callM, i_callK, i_op1, o_emp, o_revT, b_var, b_cmp, b_chain, b_chain3, b_and, b_or, b_not, b_yes, b_call, b_callK, b_blt, b_isx, b_errs, b_isk, a_nil, a_cons, r_nil, r_cons, o_nopart, o_part, i_rng1, i_rng2, i_zip, i_enum, i_cap, i_var, i_blt, i_call, i_tup, i_lst, i_idx, i_slc, q_add, q_sub, q_neg, q_lt, q_le, q_gt, q_ge, q_eqI, q_neI, q_isNN, q_isNT, q_isNI, q_isNL, q_isBB, q_isNB, q_isNS, q_isnNN, q_isnNT, q_isnNI, q_isnNL, q_andT, q_andF, q_orT, q_orF, q_not, q_toB, q_part, q_fzI, q_fzB, q_fzS, q_fzN, q_fzT, q_fzL, q_fzW, q_fzSt, q_fzSc, s_nil, s_cons, k_nx, k_rt, k_bk, k_ct, s_asg, s_asgF, s_asgT, k_asg, s_par, s_expr, s_iff, s_retN, s_raise, s_brk, s_cont, s_lams, s_pass, s_frz, k_frzO, k_frzV, s_retV, k_retO, k_retV, s_ret_non, s_ret_bl, s_ret_int, s_ret_str, s_ret_con, s_ret_bin, s_ret_neg, s_ret_cmp, s_ret_chain, s_ret_chain3, s_ret_lrng, s_ret_and, s_ret_or, s_ret_not, s_ret_ite, s_ret_tup, s_ret_lst, s_ret_idx, s_ret_slc, s_ret_call, s_ret_callK, s_ret_op0, s_ret_op1, s_ret_callM, s_ret_blt, s_ret_isx, s_ret_errs, s_ret_isk, s_ret_comp, s_app, k_runR, k_runN, for_nil, k_forN, k_forC, k_forB, k_forR, g_nm, g_tp, o_some, noErr_ret, Yes, retK, ret_bind, err_bind, bad_bind, draw_bind, getV, slOf, slO, setAll, parT, List.length_cons, List.length_nil, List.map_cons, List.map_nil, List.getElem?_cons_zero, List.getElem?_cons_succ, List.set_cons_zero, List.set_cons_succ, List.cons_append, List.nil_append, List.replicate_succ, List.replicate_zero, e_comp, k1, k2, k5, hcm, noErr_ret, k3, Bool.not_true, decide_true, Bool.false_eq_true, if_false]
  unfold t5_2
  simp only [e_non, e_bl, e_int, e_str, e_var, e_con, e_bin, e_neg, e_cmp, e_chain, e_chain3, e_lrng, e_and, e_or, e_not, e_ite, e_tup, e_lst, e_idx, e_slc, e_call, e_callK, e_blt, e_isk, e_caught, e_isx, e_must, e_errs, q_must, e_op0, e_op1, e_callM, b_op1, b_callM, i_callK, i_op1, o_emp, o_revT, b_var, b_cmp, b_chain, b_chain3, b_and, b_or, b_not, b_yes, b_call, b_callK, b_blt, b_isx, b_errs, b_isk, a_nil, a_cons, r_nil, r_cons, o_nopart, o_part, i_rng1, i_rng2, i_zip, i_enum, i_cap, i_var, i_blt, i_call, i_tup, i_lst, i_idx, i_slc, q_add, q_sub, q_neg, q_lt, q_le, q_gt, q_ge, q_eqI, q_neI, q_isNN, q_isNT, q_isNI, q_isNL, q_isBB, q_isNB, q_isNS, q_isnNN, q_isnNT, q_isnNI, q_isnNL, q_andT, q_andF, q_orT, q_orF, q_not, q_toB, q_part, q_fzI, q_fzB, q_fzS, q_fzN, q_fzT, q_fzL, q_fzW, q_fzSt, q_fzSc, s_nil, s_cons, k_nx, k_rt, k_bk, k_ct, s_asg, s_asgF, s_asgT, k_asg, s_par, s_expr, s_iff, s_retN, s_raise, s_brk, s_cont, s_lams, s_pass, s_frz, k_frzO, k_frzV, s_retV, k_retO, k_retV, s_ret_non, s_ret_bl, s_ret_int, s_ret_str, s_ret_con, s_ret_bin, s_ret_neg, s_ret_cmp, s_ret_chain, s_ret_chain3, s_ret_lrng, s_ret_and, s_ret_or, s_ret_not, s_ret_ite, s_ret_tup, s_ret_lst, s_ret_idx, s_ret_slc, s_ret_call, s_ret_callK, s_ret_op0, s_ret_op1, s_ret_callM, s_ret_blt, s_ret_isx, s_ret_errs, s_ret_isk, s_ret_comp, s_app, k_runR, k_runN, for_nil, k_forN, k_forC, k_forB, k_forR, g_nm, g_tp, o_some, noErr_ret, Yes, retK, ret_bind, err_bind, bad_bind, draw_bind, getV, slOf, slO, setAll, parT, List.length_cons, List.length_nil, List.map_cons, List.map_nil, List.getElem?_cons_zero, List.getElem?_cons_succ, List.set_cons_zero, List.set_cons_succ, List.cons_append, List.nil_append, List.replicate_succ, List.replicate_zero]
theorem f5j {k : Nat → List D → T D} {f c e a b l u : Int} {v : D} (h1 : decide (f ≤ a) = true) (h2 : decide (a ≤ b) = true) (h3 : decide (b ≤ c) = true) (h4 : decide (e < f) = false) (h5 : decide (c < e + b - a) = false) (h6 : decide (0 ≤ l) = true) (h7 : decide (0 ≤ u) = true) (h8 : decide (a = b) = true ∨ (decide (a = b) = false ∧ decide (l + u = 0) = true)) :
    ex k WH t5_3 [.val (potD f c), .val v, .val (.int e), .val (.int a), .val (.int b), .val (.int l), .val (.int u), .un] = .ret (.rt (.bl true)) := by
  have i0 : idxT (potD f c) (.int 0) = .ret (.int f) := rfl
  have i1 : idxT (potD f c) (.int 1) = .ret (.int c) := rfl
  unfold t5_3
  simp only [e_non, e_bl, e_int, e_str, e_var, e_con, e_bin, e_neg, e_cmp, e_chain, e_chain3, e_lrng, e_and, e_or, e_not, e_ite, e_tup, e_lst, e_idx, e_slc, e_call, e_callK, e_blt, e_isk, e_caught, e_isx, e_must, e_errs, q_must, e_op0, e_op1, e_callM, b_op1, b_callM, i_callK, i_op1, o_emp, o_revT, b_var, b_cmp, b_chain, b_chain3, b_and, b_or, b_not, b_yes, b_call, b_callK, b_blt, b_isx, b_errs, b_isk, a_nil, a_cons, r_nil, r_cons, o_nopart, o_part, i_rng1, i_rng2, i_zip, i_enum, i_cap, i_var, i_blt, i_call, i_tup, i_lst, i_idx, i_slc, q_add, q_sub, q_neg, q_lt, q_le, q_gt, q_ge, q_eqI, q_neI, q_isNN, q_isNT, q_isNI, q_isNL, q_isBB, q_isNB, q_isNS, q_isnNN, q_isnNT, q_isnNI, q_isnNL, q_andT, q_andF, q_orT, q_orF, q_not, q_toB, q_part, q_fzI, q_fzB, q_fzS, q_fzN, q_fzT, q_fzL, q_fzW, q_fzSt, q_fzSc, s_nil, s_cons, k_nx, k_rt, k_bk, k_ct, s_asg, s_asgF, s_asgT, k_asg, s_par, s_expr, s_iff, s_retN, s_raise, s_brk, s_cont, s_lams, s_pass, s_frz, k_frzO, k_frzV, s_retV, k_retO, k_retV, s_ret_non, s_ret_bl, s_ret_int, s_ret_str, s_ret_con, s_ret_bin, s_ret_neg, s_ret_cmp, s_ret_chain, s_ret_chain3, s_ret_lrng, s_ret_and, s_ret_or, s_ret_not, s_ret_ite, s_ret_tup, s_ret_lst, s_ret_idx, s_ret_slc, s_ret_call, s_ret_callK, s_ret_op0, s_ret_op1, s_ret_callM, s_ret_blt, s_ret_isx, s_ret_errs, s_ret_isk, s_ret_comp, s_app, k_runR, k_runN, for_nil, k_forN, k_forC, k_forB, k_forR, g_nm, g_tp, o_some, noErr_ret, Yes, retK, ret_bind, err_bind, bad_bind, draw_bind, getV, slOf, slO, setAll, parT, List.length_cons, List.length_nil, List.map_cons, List.map_nil, List.getElem?_cons_zero, List.getElem?_cons_succ, List.set_cons_zero, List.set_cons_succ, List.cons_append, List.nil_append, List.replicate_succ, List.replicate_zero, i0, i1, h1, h2, h3, h4, h5, if_true, Bool.not_true, Bool.false_eq_true, if_false]
  unfold t5_4
  rcases h8 with h8 | ⟨h8, h9⟩
  · simp only [e_non, e_bl, e_int, e_str, e_var, e_con, e_bin, e_neg, e_cmp, e_chain, e_chain3, e_lrng, e_and, e_or, e_not, e_ite, e_tup, e_lst, e_idx, e_slc, e_call, e_callK, e_blt, e_isk, e_caught, e_isx, e_must, e_errs, q_must, e_op0, e_op1, e_callM, b_op1, b_callM, i_callK, i_op1, o_emp, o_revT, b_var, b_cmp, b_chain, b_chain3, b_and, b_or, b_not, b_yes, b_call, b_callK, b_blt, b_isx, b_errs, b_isk, a_nil, a_cons, r_nil, r_cons, o_nopart, o_part, i_rng1, i_rng2, i_zip, i_enum, i_cap, i_var, i_blt, i_call, i_tup, i_lst, i_idx, i_slc, q_add, q_sub, q_neg, q_lt, q_le, q_gt, q_ge, q_eqI, q_neI, q_isNN, q_isNT, q_isNI, q_isNL, q_isBB, q_isNB, q_isNS, q_isnNN, q_isnNT, q_isnNI, q_isnNL, q_andT, q_andF, q_orT, q_orF, q_not, q_toB, q_part, q_fzI, q_fzB, q_fzS, q_fzN, q_fzT, q_fzL, q_fzW, q_fzSt, q_fzSc, s_nil, s_cons, k_nx, k_rt, k_bk, k_ct, s_asg, s_asgF, s_asgT, k_asg, s_par, s_expr, s_iff, s_retN, s_raise, s_brk, s_cont, s_lams, s_pass, s_frz, k_frzO, k_frzV, s_retV, k_retO, k_retV, s_ret_non, s_ret_bl, s_ret_int, s_ret_str, s_ret_con, s_ret_bin, s_ret_neg, s_ret_cmp, s_ret_chain, s_ret_chain3, s_ret_lrng, s_ret_and, s_ret_or, s_ret_not, s_ret_ite, s_ret_tup, s_ret_lst, s_ret_idx, s_ret_slc, s_ret_call, s_ret_callK, s_ret_op0, s_ret_op1, s_ret_callM, s_ret_blt, s_ret_isx, s_ret_errs, s_ret_isk, s_ret_comp, s_app, k_runR, k_runN, for_nil, k_forN, k_forC, k_forB, k_forR, g_nm, g_tp, o_some, noErr_ret, Yes, retK, ret_bind, err_bind, bad_bind, draw_bind, getV, slOf, slO, setAll, parT, List.length_cons, List.length_nil, List.map_cons, List.map_nil, List.getElem?_cons_zero, List.getElem?_cons_succ, List.set_cons_zero, List.set_cons_succ, List.cons_append, List.nil_append, List.replicate_succ, List.replicate_zero, h6, h7, h8]
  · simp only [e_non, e_bl, e_int, e_str, e_var, e_con, e_bin, e_neg, e_cmp, e_chain, e_chain3, e_lrng, e_and, e_or, e_not, e_ite, e_tup, e_lst, e_idx, e_slc, e_call, e_callK, e_blt, e_isk, e_caught, e_isx, e_must, e_errs, q_must, e_op0, e_op1, e_callM, b_op1, b_callM, i_callK, i_op1, o_emp, o_revT, b_var, b_cmp, b_chain, b_chain3, b_and, b_or, b_not, b_yes, b_call, b_callK, b_blt, b_isx, b_errs, b_isk, a_nil, a_cons, r_nil, r_cons, o_nopart, o_part, i_rng1, i_rng2, i_zip, i_enum, i_cap, i_var, i_blt, i_call, i_tup, i_lst, i_idx, i_slc, q_add, q_sub, q_neg, q_lt, q_le, q_gt, q_ge, q_eqI, q_neI, q_isNN, q_isNT, q_isNI, q_isNL, q_isBB, q_isNB, q_isNS, q_isnNN, q_isnNT, q_isnNI, q_isnNL, q_andT, q_andF, q_orT, q_orF, q_not, q_toB, q_part, q_fzI, q_fzB, q_fzS, q_fzN, q_fzT, q_fzL, q_fzW, q_fzSt, q_fzSc, s_nil, s_cons, k_nx, k_rt, k_bk, k_ct, s_asg, s_asgF, s_asgT, k_asg, s_par, s_expr, s_iff, s_retN, s_raise, s_brk, s_cont, s_lams, s_pass, s_frz, k_frzO, k_frzV, s_retV, k_retO, k_retV, s_ret_non, s_ret_bl, s_ret_int, s_ret_str, s_ret_con, s_ret_bin, s_ret_neg, s_ret_cmp, s_ret_chain, s_ret_chain3, s_ret_lrng, s_ret_and, s_ret_or, s_ret_not, s_ret_ite, s_ret_tup, s_ret_lst, s_ret_idx, s_ret_slc, s_ret_call, s_ret_callK, s_ret_op0, s_ret_op1, s_ret_callM, s_ret_blt, s_ret_isx, s_ret_errs, s_ret_isk, s_ret_comp, s_app, k_runR, k_runN, for_nil, k_forN, k_forC, k_forB, k_forR, g_nm, g_tp, o_some, noErr_ret, Yes, retK, ret_bind, err_bind, bad_bind, draw_bind, getV, slOf, slO, setAll, parT, List.length_cons, List.length_nil, List.map_cons, List.map_nil, List.getElem?_cons_zero, List.getElem?_cons_succ, List.set_cons_zero, List.set_cons_succ, List.cons_append, List.nil_append, List.replicate_succ, List.replicate_zero, h6, h7, h8, h9]
theorem f5k {k : Nat → List D → T D} {f c e a b l u : Int} {v : D} (h1 : decide (f ≤ a) = true) (h2 : decide (a ≤ b) = false) : ex k WH t5_3 [.val (potD f c), .val v, .val (.int e), .val (.int a), .val (.int b), .val (.int l), .val (.int u), .un] = .ret (.rt (.bl false)) := by
  have i0 : idxT (potD f c) (.int 0) = .ret (.int f) := rfl
  unfold t5_3
  simp only [e_non, e_bl, e_int, e_str, e_var, e_con, e_bin, e_neg, e_cmp, e_chain, e_chain3, e_lrng, e_and, e_or, e_not, e_ite, e_tup, e_lst, e_idx, e_slc, e_call, e_callK, e_blt, e_isk, e_caught, e_isx, e_must, e_errs, q_must, e_op0, e_op1, e_callM, b_op1, b_callM, i_callK, i_op1, o_emp, o_revT, b_var, b_cmp, b_chain, b_chain3, b_and, b_or, b_not, b_yes, b_call, b_callK, b_blt, b_isx, b_errs, b_isk, a_nil, a_cons, r_nil, r_cons, o_nopart, o_part, i_rng1, i_rng2, i_zip, i_enum, i_cap, i_var, i_blt, i_call, i_tup, i_lst, i_idx, i_slc, q_add, q_sub, q_neg, q_lt, q_le, q_gt, q_ge, q_eqI, q_neI, q_isNN, q_isNT, q_isNI, q_isNL, q_isBB, q_isNB, q_isNS, q_isnNN, q_isnNT, q_isnNI, q_isnNL, q_andT, q_andF, q_orT, q_orF, q_not, q_toB, q_part, q_fzI, q_fzB, q_fzS, q_fzN, q_fzT, q_fzL, q_fzW, q_fzSt, q_fzSc, s_nil, s_cons, k_nx, k_rt, k_bk, k_ct, s_asg, s_asgF, s_asgT, k_asg, s_par, s_expr, s_iff, s_retN, s_raise, s_brk, s_cont, s_lams, s_pass, s_frz, k_frzO, k_frzV, s_retV, k_retO, k_retV, s_ret_non, s_ret_bl, s_ret_int, s_ret_str, s_ret_con, s_ret_bin, s_ret_neg, s_ret_cmp, s_ret_chain, s_ret_chain3, s_ret_lrng, s_ret_and, s_ret_or, s_ret_not, s_ret_ite, s_ret_tup, s_ret_lst, s_ret_idx, s_ret_slc, s_ret_call, s_ret_callK, s_ret_op0, s_ret_op1, s_ret_callM, s_ret_blt, s_ret_isx, s_ret_errs, s_ret_isk, s_ret_comp, s_app, k_runR, k_runN, for_nil, k_forN, k_forC, k_forB, k_forR, g_nm, g_tp, o_some, noErr_ret, Yes, retK, ret_bind, err_bind, bad_bind, draw_bind, getV, slOf, slO, setAll, parT, List.length_cons, List.length_nil, List.map_cons, List.map_nil, List.getElem?_cons_zero, List.getElem?_cons_succ, List.set_cons_zero, List.set_cons_succ, List.cons_append, List.nil_append, List.replicate_succ, List.replicate_zero, i0, h1, h2, if_true, Bool.not_false, Bool.false_eq_true, if_false]
theorem f5 {n : Nat} {f c : Int} (h : Pot f c) {s : St} (o : Ok f c s) : callF tab WH (n + 4) 5 [potD f c, stD s] = .ret (.bl true) := by
  obtain ⟨p1, p2, p3, p4, p5, p6, p7, p8⟩ := o
  show runD (callF tab WH (n + 3)) WH d5 _ = _
  rw [run_eq rfl]
  unfold stD
  rw [f5i (g := true) (f3 (n := n) h) (fun d hd => f4 (n := n + 2) hd), f5j (decide_eq_true p1) (decide_eq_true p2) (decide_eq_true p3) (decide_eq_false (by omega)) (decide_eq_false (by omega)) (decide_eq_true p6) (decide_eq_true p7) ?_]
  · rfl
  · by_cases z : s.a = s.b
    · exact .inl (decide_eq_true z)
    · exact .inr ⟨decide_eq_false z, decide_eq_true (by omega)⟩
/-- what is no stretch -/
inductive NoSt (f c : Int) : D → Prop
  | non : NoSt f c .non
  | lst (ds : List D) : NoSt f c (.lst ds)
  | four (s : St) : NoSt f c (.tup [.int s.e, .int s.a, .int s.b, .int s.l])
  | six (s : St) : NoSt f c (.tup [.int s.e, .int s.a, .int s.b, .int s.l, .int s.u, .int 0])
  | back (s : St) (h : f ≤ s.b) : NoSt f c (.tup [.int s.e, .int (s.b + 1), .int s.b, .int s.l, .int s.u])
theorem NoSt.fz {f c : Int} {v : D} (h : NoSt f c v) : fz v = .ret v := by cases h <;> rfl
theorem f5n {k : Nat → List D → T D} {f c : Int} {v : D} (e3 : k 3 [potD f c] = .ret .non) (h : bltT .istup [v] = .ret (.bl false)) : ex k WH d5.body (startE d5.N [potD f c, v]) = .ret (.rt (.bl false)) := by
  have fz1 : fz (potD f c) = .ret (potD f c) := rfl
  rw [body5]
  simp only [d5, startE]
  unfold t5_0
  simp only [e_non, e_bl, e_int, e_str, e_var, e_con, e_bin, e_neg, e_cmp, e_chain, e_chain3, e_lrng, e_and, e_or, e_not, e_ite, e_tup, e_lst, e_idx, e_slc, e_call, e_callK, e_blt, e_isk, e_caught, e_isx, e_must, e_errs, q_must, e_op0, e_op1, e_callM, b_op1, b_callM, i_callK, i_op1, o_emp, o_revT, b_var, b_cmp, b_chain, b_chain3, b_and, b_or, b_not, b_yes, b_call, b_callK, b_blt, b_isx, b_errs, b_isk, a_nil, a_cons, r_nil, r_cons, o_nopart, o_part, i_rng1, i_rng2, i_zip, i_enum, i_cap, i_var, i_blt, i_call, i_tup, i_lst, i_idx, i_slc, q_add, q_sub, q_neg, q_lt, q_le, q_gt, q_ge, q_eqI, q_neI, q_isNN, q_isNT, q_isNI, q_isNL, q_isBB, q_isNB, q_isNS, q_isnNN, q_isnNT, q_isnNI, q_isnNL, q_andT, q_andF, q_orT, q_orF, q_not, q_toB, q_part, q_fzI, q_fzB, q_fzS, q_fzN, q_fzT, q_fzL, q_fzW, q_fzSt, q_fzSc, s_nil, s_cons, k_nx, k_rt, k_bk, k_ct, s_asg, s_asgF, s_asgT, k_asg, s_par, s_expr, s_iff, s_retN, s_raise, s_brk, s_cont, s_lams, s_pass, s_frz, k_frzO, k_frzV, s_retV, k_retO, k_retV, s_ret_non, s_ret_bl, s_ret_int, s_ret_str, s_ret_con, s_ret_bin, s_ret_neg, s_ret_cmp, s_ret_chain, s_ret_chain3, s_ret_lrng, s_ret_and, s_ret_or, s_ret_not, s_ret_ite, s_ret_tup, s_ret_lst, s_ret_idx, s_ret_slc, s_ret_call, s_ret_callK, s_ret_op0, s_ret_op1, s_ret_callM, s_ret_blt, s_ret_isx, s_ret_errs, s_ret_isk, s_ret_comp, s_app, k_runR, k_runN, for_nil, k_forN, k_forC, k_forB, k_forR, g_nm, g_tp, o_some, noErr_ret, Yes, retK, ret_bind, err_bind, bad_bind, draw_bind, getV, slOf, slO, setAll, parT, List.length_cons, List.length_nil, List.map_cons, List.map_nil, List.getElem?_cons_zero, List.getElem?_cons_succ, List.set_cons_zero, List.set_cons_succ, List.cons_append, List.nil_append, List.replicate_succ, List.replicate_zero, fz1, e3]
  unfold t5_1
  simp only [e_non, e_bl, e_int, e_str, e_var, e_con, e_bin, e_neg, e_cmp, e_chain, e_chain3, e_lrng, e_and, e_or, e_not, e_ite, e_tup, e_lst, e_idx, e_slc, e_call, e_callK, e_blt, e_isk, e_caught, e_isx, e_must, e_errs, q_must, e_op0, e_op1, e_callM, b_op1, b_callM, i_callK, i_op1, o_emp, o_revT, b_var, b_cmp, b_chain, b_chain3, b_and, b_or, b_not, b_yes, b_call, b_callK, b_blt, b_isx, b_errs, b_isk, a_nil, a_cons, r_nil, r_cons, o_nopart, o_part, i_rng1, i_rng2, i_zip, i_enum, i_cap, i_var, i_blt, i_call, i_tup, i_lst, i_idx, i_slc, q_add, q_sub, q_neg, q_lt, q_le, q_gt, q_ge, q_eqI, q_neI, q_isNN, q_isNT, q_isNI, q_isNL, q_isBB, q_isNB, q_isNS, q_isnNN, q_isnNT, q_isnNI, q_isnNL, q_andT, q_andF, q_orT, q_orF, q_not, q_toB, q_part, q_fzI, q_fzB, q_fzS, q_fzN, q_fzT, q_fzL, q_fzW, q_fzSt, q_fzSc, s_nil, s_cons, k_nx, k_rt, k_bk, k_ct, s_asg, s_asgF, s_asgT, k_asg, s_par, s_expr, s_iff, s_retN, s_raise, s_brk, s_cont, s_lams, s_pass, s_frz, k_frzO, k_frzV, s_retV, k_retO, k_retV, s_ret_non, s_ret_bl, s_ret_int, s_ret_str, s_ret_con, s_ret_bin, s_ret_neg, s_ret_cmp, s_ret_chain, s_ret_chain3, s_ret_lrng, s_ret_and, s_ret_or, s_ret_not, s_ret_ite, s_ret_tup, s_ret_lst, s_ret_idx, s_ret_slc, s_ret_call, s_ret_callK, s_ret_op0, s_ret_op1, s_ret_callM, s_ret_blt, s_ret_isx, s_ret_errs, s_ret_isk, s_ret_comp, s_app, k_runR, k_runN, for_nil, k_forN, k_forC, k_forB, k_forR, g_nm, g_tp, o_some, noErr_ret, Yes, retK, ret_bind, err_bind, bad_bind, draw_bind, getV, slOf, slO, setAll, parT, List.length_cons, List.length_nil, List.map_cons, List.map_nil, List.getElem?_cons_zero, List.getElem?_cons_succ, List.set_cons_zero, List.set_cons_succ, List.cons_append, List.nil_append, List.replicate_succ, List.replicate_zero, h, Bool.not_false, if_true]
theorem f5m {k : Nat → List D → T D} {f c : Int} {v : D} {m : Int} (e3 : k 3 [potD f c] = .ret .non) (h : bltT .istup [v] = .ret (.bl true)) (h2 : bltT .len [v] = .ret (.int m)) (h3 : decide (m = 5) = false) : ex k WH d5.body (startE d5.N [potD f c, v]) = .ret (.rt (.bl false)) := by
  have fz1 : fz (potD f c) = .ret (potD f c) := rfl
  rw [body5]
  simp only [d5, startE]
  unfold t5_0
  simp only [e_non, e_bl, e_int, e_str, e_var, e_con, e_bin, e_neg, e_cmp, e_chain, e_chain3, e_lrng, e_and, e_or, e_not, e_ite, e_tup, e_lst, e_idx, e_slc, e_call, e_callK, e_blt, e_isk, e_caught, e_isx, e_must, e_errs, q_must, e_op0, e_op1, e_callM, b_op1, b_callM, i_callK, i_op1, o_emp, o_revT, b_var, b_cmp, b_chain, b_chain3, b_and, b_or, b_not, b_yes, b_call, b_callK, b_blt, b_isx, b_errs, b_isk, a_nil, a_cons, r_nil, r_cons, o_nopart, o_part, i_rng1, i_rng2, i_zip, i_enum, i_cap, i_var, i_blt, i_call, i_tup, i_lst, i_idx, i_slc, q_add, q_sub, q_neg, q_lt, q_le, q_gt, q_ge, q_eqI, q_neI, q_isNN, q_isNT, q_isNI, q_isNL, q_isBB, q_isNB, q_isNS, q_isnNN, q_isnNT, q_isnNI, q_isnNL, q_andT, q_andF, q_orT, q_orF, q_not, q_toB, q_part, q_fzI, q_fzB, q_fzS, q_fzN, q_fzT, q_fzL, q_fzW, q_fzSt, q_fzSc, s_nil, s_cons, k_nx, k_rt, k_bk, k_ct, s_asg, s_asgF, s_asgT, k_asg, s_par, s_expr, s_iff, s_retN, s_raise, s_brk, s_cont, s_lams, s_pass, s_frz, k_frzO, k_frzV, s_retV, k_retO, k_retV, s_ret_non, s_ret_bl, s_ret_int, s_ret_str, s_ret_con, s_ret_bin, s_ret_neg, s_ret_cmp, s_ret_chain, s_ret_chain3, s_ret_lrng, s_ret_and, s_ret_or, s_ret_not, s_ret_ite, s_ret_tup, s_ret_lst, s_ret_idx, s_ret_slc, s_ret_call, s_ret_callK, s_ret_op0, s_ret_op1, s_ret_callM, s_ret_blt, s_ret_isx, s_ret_errs, s_ret_isk, s_ret_comp, s_app, k_runR, k_runN, for_nil, k_forN, k_forC, k_forB, k_forR, g_nm, g_tp, o_some, noErr_ret, Yes, retK, ret_bind, err_bind, bad_bind, draw_bind, getV, slOf, slO, setAll, parT, List.length_cons, List.length_nil, List.map_cons, List.map_nil, List.getElem?_cons_zero, List.getElem?_cons_succ, List.set_cons_zero, List.set_cons_succ, List.cons_append, List.nil_append, List.replicate_succ, List.replicate_zero, fz1, e3]
  unfold t5_1
  simp only [e_non, e_bl, e_int, e_str, e_var, e_con, e_bin, e_neg, e_cmp, e_chain, e_chain3, e_lrng, e_and, e_or, e_not, e_ite, e_tup, e_lst, e_idx, e_slc, e_call, e_callK, e_blt, e_isk, e_caught, e_isx, e_must, e_errs, q_must, e_op0, e_op1, e_callM, b_op1, b_callM, i_callK, i_op1, o_emp, o_revT, b_var, b_cmp, b_chain, b_chain3, b_and, b_or, b_not, b_yes, b_call, b_callK, b_blt, b_isx, b_errs, b_isk, a_nil, a_cons, r_nil, r_cons, o_nopart, o_part, i_rng1, i_rng2, i_zip, i_enum, i_cap, i_var, i_blt, i_call, i_tup, i_lst, i_idx, i_slc, q_add, q_sub, q_neg, q_lt, q_le, q_gt, q_ge, q_eqI, q_neI, q_isNN, q_isNT, q_isNI, q_isNL, q_isBB, q_isNB, q_isNS, q_isnNN, q_isnNT, q_isnNI, q_isnNL, q_andT, q_andF, q_orT, q_orF, q_not, q_toB, q_part, q_fzI, q_fzB, q_fzS, q_fzN, q_fzT, q_fzL, q_fzW, q_fzSt, q_fzSc, s_nil, s_cons, k_nx, k_rt, k_bk, k_ct, s_asg, s_asgF, s_asgT, k_asg, s_par, s_expr, s_iff, s_retN, s_raise, s_brk, s_cont, s_lams, s_pass, s_frz, k_frzO, k_frzV, s_retV, k_retO, k_retV, s_ret_non, s_ret_bl, s_ret_int, s_ret_str, s_ret_con, s_ret_bin, s_ret_neg, s_ret_cmp, s_ret_chain, s_ret_chain3, s_ret_lrng, s_ret_and, s_ret_or, s_ret_not, s_ret_ite, s_ret_tup, s_ret_lst, s_ret_idx, s_ret_slc, s_ret_call, s_ret_callK, s_ret_op0, s_ret_op1, s_ret_callM, s_ret_blt, s_ret_isx, s_ret_errs, s_ret_isk, s_ret_comp, s_app, k_runR, k_runN, for_nil, k_forN, k_forC, k_forB, k_forR, g_nm, g_tp, o_some, noErr_ret, Yes, retK, ret_bind, err_bind, bad_bind, draw_bind, getV, slOf, slO, setAll, parT, List.length_cons, List.length_nil, List.map_cons, List.map_nil, List.getElem?_cons_zero, List.getElem?_cons_succ, List.set_cons_zero, List.set_cons_succ, List.cons_append, List.nil_append, List.replicate_succ, List.replicate_zero, h, h2, h3, Bool.not_true, Bool.not_false, Bool.false_eq_true, if_false, if_true]
theorem f5w {n : Nat} {f c : Int} (h : Pot f c) {v : D} (o : NoSt f c v) : callF tab WH (n + 4) 5 [potD f c, v] = .ret (.bl false) := by
  show runD (callF tab WH (n + 3)) WH d5 _ = _
  rw [run_eq rfl]
  have e3 := f3 (n := n) h
  cases o with
  | non => rw [f5n e3 rfl]; rfl
  | lst ds => rw [f5n e3 rfl]; rfl
  | four s => rw [f5m (m := 4) e3 rfl rfl (by decide)]; rfl
  | six s => rw [f5m (m := 6) e3 rfl rfl (by decide)]; rfl
  | back s hb =>
    rw [f5i (g := true) e3 (fun d hd => f4 (n := n + 2) hd), f5k (decide_eq_true (by omega)) (decide_eq_false (by omega))]
    rfl
theorem f6 {n : Nat} {f c : Int} (h : Pot f c) {s : St} (o : Ok f c s) : callF tab WH (n + 5) 6 [potD f c, stD s] = .ret .non := by
  show runD (callF tab WH (n + 4)) WH d6 _ = _
  rw [run_eq rfl]
  have e := f5 (n := n) h o
  have fz1 : fz (potD f c) = .ret (potD f c) := rfl
  have fz2 : fz (stD s) = .ret (stD s) := rfl
  simp only [d6, startE]
  simp only [e_non, e_bl, e_int, e_str, e_var, e_con, e_bin, e_neg, e_cmp, e_chain, e_chain3, e_lrng, e_and, e_or, e_not, e_ite, e_tup, e_lst, e_idx, e_slc, e_call, e_callK, e_blt, e_isk, e_caught, e_isx, e_must, e_errs, q_must, e_op0, e_op1, e_callM, b_op1, b_callM, i_callK, i_op1, o_emp, o_revT, b_var, b_cmp, b_chain, b_chain3, b_and, b_or, b_not, b_yes, b_call, b_callK, b_blt, b_isx, b_errs, b_isk, a_nil, a_cons, r_nil, r_cons, o_nopart, o_part, i_rng1, i_rng2, i_zip, i_enum, i_cap, i_var, i_blt, i_call, i_tup, i_lst, i_idx, i_slc, q_add, q_sub, q_neg, q_lt, q_le, q_gt, q_ge, q_eqI, q_neI, q_isNN, q_isNT, q_isNI, q_isNL, q_isBB, q_isNB, q_isNS, q_isnNN, q_isnNT, q_isnNI, q_isnNL, q_andT, q_andF, q_orT, q_orF, q_not, q_toB, q_part, q_fzI, q_fzB, q_fzS, q_fzN, q_fzT, q_fzL, q_fzW, q_fzSt, q_fzSc, s_nil, s_cons, k_nx, k_rt, k_bk, k_ct, s_asg, s_asgF, s_asgT, k_asg, s_par, s_expr, s_iff, s_retN, s_raise, s_brk, s_cont, s_lams, s_pass, s_frz, k_frzO, k_frzV, s_retV, k_retO, k_retV, s_ret_non, s_ret_bl, s_ret_int, s_ret_str, s_ret_con, s_ret_bin, s_ret_neg, s_ret_cmp, s_ret_chain, s_ret_chain3, s_ret_lrng, s_ret_and, s_ret_or, s_ret_not, s_ret_ite, s_ret_tup, s_ret_lst, s_ret_idx, s_ret_slc, s_ret_call, s_ret_callK, s_ret_op0, s_ret_op1, s_ret_callM, s_ret_blt, s_ret_isx, s_ret_errs, s_ret_isk, s_ret_comp, s_app, k_runR, k_runN, for_nil, k_forN, k_forC, k_forB, k_forR, g_nm, g_tp, o_some, noErr_ret, Yes, retK, ret_bind, err_bind, bad_bind, draw_bind, getV, slOf, slO, setAll, parT, List.length_cons, List.length_nil, List.map_cons, List.map_nil, List.getElem?_cons_zero, List.getElem?_cons_succ, List.set_cons_zero, List.set_cons_succ, List.cons_append, List.nil_append, List.replicate_succ, List.replicate_zero, fz1, fz2, e, Bool.not_true, Bool.false_eq_true, if_false]
theorem f6w {n : Nat} {f c : Int} (h : Pot f c) {v : D} (o : NoSt f c v) : callF tab WH (n + 5) 6 [potD f c, v] = .err 4 := by
  show runD (callF tab WH (n + 4)) WH d6 _ = _
  rw [run_eq rfl]
  have e := f5w (n := n) h o
  have fz1 : fz (potD f c) = .ret (potD f c) := rfl
  have fz2 := o.fz
  simp only [d6, startE]
  simp only [e_non, e_bl, e_int, e_str, e_var, e_con, e_bin, e_neg, e_cmp, e_chain, e_chain3, e_lrng, e_and, e_or, e_not, e_ite, e_tup, e_lst, e_idx, e_slc, e_call, e_callK, e_blt, e_isk, e_caught, e_isx, e_must, e_errs, q_must, e_op0, e_op1, e_callM, b_op1, b_callM, i_callK, i_op1, o_emp, o_revT, b_var, b_cmp, b_chain, b_chain3, b_and, b_or, b_not, b_yes, b_call, b_callK, b_blt, b_isx, b_errs, b_isk, a_nil, a_cons, r_nil, r_cons, o_nopart, o_part, i_rng1, i_rng2, i_zip, i_enum, i_cap, i_var, i_blt, i_call, i_tup, i_lst, i_idx, i_slc, q_add, q_sub, q_neg, q_lt, q_le, q_gt, q_ge, q_eqI, q_neI, q_isNN, q_isNT, q_isNI, q_isNL, q_isBB, q_isNB, q_isNS, q_isnNN, q_isnNT, q_isnNI, q_isnNL, q_andT, q_andF, q_orT, q_orF, q_not, q_toB, q_part, q_fzI, q_fzB, q_fzS, q_fzN, q_fzT, q_fzL, q_fzW, q_fzSt, q_fzSc, s_nil, s_cons, k_nx, k_rt, k_bk, k_ct, s_asg, s_asgF, s_asgT, k_asg, s_par, s_expr, s_iff, s_retN, s_raise, s_brk, s_cont, s_lams, s_pass, s_frz, k_frzO, k_frzV, s_retV, k_retO, k_retV, s_ret_non, s_ret_bl, s_ret_int, s_ret_str, s_ret_con, s_ret_bin, s_ret_neg, s_ret_cmp, s_ret_chain, s_ret_chain3, s_ret_lrng, s_ret_and, s_ret_or, s_ret_not, s_ret_ite, s_ret_tup, s_ret_lst, s_ret_idx, s_ret_slc, s_ret_call, s_ret_callK, s_ret_op0, s_ret_op1, s_ret_callM, s_ret_blt, s_ret_isx, s_ret_errs, s_ret_isk, s_ret_comp, s_app, k_runR, k_runN, for_nil, k_forN, k_forC, k_forB, k_forR, g_nm, g_tp, o_some, noErr_ret, Yes, retK, ret_bind, err_bind, bad_bind, draw_bind, getV, slOf, slO, setAll, parT, List.length_cons, List.length_nil, List.map_cons, List.map_nil, List.getElem?_cons_zero, List.getElem?_cons_succ, List.set_cons_zero, List.set_cons_succ, List.cons_append, List.nil_append, List.replicate_succ, List.replicate_zero, fz1, fz2, e, Bool.not_false, if_true]
/-! link -/
def t7_6 : S := .cons (.ret (.tup (.cons (.bin .add (.idx (.var 1) (.int 0)) (.blt .max (.cons (.int 0) (.cons (.bin .sub (.var 4) (.idx (.var 1) (.int 1))) .nil)))) (.cons (.var 2) (.cons (.var 3) (.cons (.var 6) (.cons (.var 7) .nil))))))) .nil
def t7_5 : S := .cons (.asgF 3 (.bin .sub (.idx (.var 0) (.int 2)) (.blt .max (.cons (.int 0) (.cons (.bin .sub (.var 5) (.idx (.var 1) (.int 2))) .nil))))) t7_6
def t7_4 : S := .cons (.asgF 2 (.bin .add (.idx (.var 0) (.int 1)) (.blt .max (.cons (.int 0) (.cons (.bin .sub (.idx (.var 1) (.int 1)) (.var 4)) .nil))))) t7_5
def t7_3 : S := .cons (.iff (.cmp .ge (.var 4) (.idx (.var 1) (.int 2))) (.cons (.ret (.tup (.cons (.bin .sub (.bin .add (.idx (.var 1) (.int 0)) (.idx (.var 1) (.int 2))) (.idx (.var 1) (.int 1))) (.cons (.idx (.var 0) (.int 1)) (.cons (.idx (.var 0) (.int 1)) (.cons (.bin .sub (.bin .add (.var 6) (.var 4)) (.idx (.var 1) (.int 2))) (.cons (.var 7) .nil))))))) .nil) .nil) t7_4
def t7_2 : S := .cons (.iff (.cmp .le (.var 5) (.idx (.var 1) (.int 1))) (.cons (.ret (.tup (.cons (.idx (.var 1) (.int 0)) (.cons (.idx (.var 0) (.int 2)) (.cons (.idx (.var 0) (.int 2)) (.cons (.var 6) (.cons (.bin .sub (.bin .add (.var 7) (.idx (.var 1) (.int 1))) (.var 5)) .nil))))))) .nil) .nil) t7_3
def t7_1 : S := .cons (.par [6, 7] (.cons (.bin .add (.idx (.var 0) (.int 3)) (.idx (.var 1) (.int 3))) (.cons (.bin .add (.idx (.var 0) (.int 4)) (.idx (.var 1) (.int 4))) .nil))) t7_2
def t7_0 : S := .cons (.par [4, 5] (.cons (.idx (.var 0) (.int 0)) (.cons (.bin .sub (.bin .add (.idx (.var 0) (.int 0)) (.idx (.var 0) (.int 2))) (.idx (.var 0) (.int 1))) .nil))) t7_1
theorem body7 : d7.body = t7_0 := rfl
theorem f7i {k : Nat → List D → T D} {pe pa pb pl pu qe qa qb ql qu : Int} : (decide (pe + pb - pa ≤ qa) = true → ex k WH d7.body (startE d7.N [.tup [.int pe, .int pa, .int pb, .int pl, .int pu], .tup [.int qe, .int qa, .int qb, .int ql, .int qu]]) = .ret (.rt (.tup [.int qe, .int pb, .int pb, .int (pl + ql), .int (pu + qu + qa - (pe + pb - pa))]))) ∧
    (decide (pe + pb - pa ≤ qa) = false → decide (qb ≤ pe) = true → ex k WH d7.body (startE d7.N [.tup [.int pe, .int pa, .int pb, .int pl, .int pu], .tup [.int qe, .int qa, .int qb, .int ql, .int qu]]) = .ret (.rt (.tup [.int (qe + qb - qa), .int pa, .int pa, .int (pl + ql + pe - qb), .int (pu + qu)]))) ∧
    (decide (pe + pb - pa ≤ qa) = false → decide (qb ≤ pe) = false → ex k WH d7.body (startE d7.N [.tup [.int pe, .int pa, .int pb, .int pl, .int pu], .tup [.int qe, .int qa, .int qb, .int ql, .int qu]]) = .ret (.rt (.tup [.int (qe + max 0 (pe - qa)), .int (pa + max 0 (qa - pe)), .int (pb - max 0 (pe + pb - pa - qb)), .int (pl + ql), .int (pu + qu)]))) := by
  have st : ex k WH d7.body (startE d7.N [.tup [.int pe, .int pa, .int pb, .int pl, .int pu], .tup [.int qe, .int qa, .int qb, .int ql, .int qu]]) = ex k WH t7_2 [.val (.tup [.int pe, .int pa, .int pb, .int pl, .int pu]), .val (.tup [.int qe, .int qa, .int qb, .int ql, .int qu]), .un, .un, .val (.int pe), .val (.int (pe + pb - pa)), .val (.int (pl + ql)), .val (.int (pu + qu))] := by
    rw [body7]
    simp only [d7, startE]
    unfold t7_0
    simp only [e_non, e_bl, e_int, e_str, e_var, e_con, e_bin, e_neg, e_cmp, e_chain, e_chain3, e_lrng, e_and, e_or, e_not, e_ite, e_tup, e_lst, e_idx, e_slc, e_call, e_callK, e_blt, e_isk, e_caught, e_isx, e_must, e_errs, q_must, e_op0, e_op1, e_callM, b_op1, b_callM, i_callK, i_op1, o_emp, o_revT, b_var, b_cmp, b_chain, b_chain3, b_and, b_or, b_not, b_yes, b_call, b_callK, b_blt, b_isx, b_errs, b_isk, a_nil, a_cons, r_nil, r_cons, o_nopart, o_part, i_rng1, i_rng2, i_zip, i_enum, i_cap, i_var, i_blt, i_call, i_tup, i_lst, i_idx, i_slc, q_add, q_sub, q_neg, q_lt, q_le, q_gt, q_ge, q_eqI, q_neI, q_isNN, q_isNT, q_isNI, q_isNL, q_isBB, q_isNB, q_isNS, q_isnNN, q_isnNT, q_isnNI, q_isnNL, q_andT, q_andF, q_orT, q_orF, q_not, q_toB, q_part, q_fzI, q_fzB, q_fzS, q_fzN, q_fzT, q_fzL, q_fzW, q_fzSt, q_fzSc, s_nil, s_cons, k_nx, k_rt, k_bk, k_ct, s_asg, s_asgF, s_asgT, k_asg, s_par, s_expr, s_iff, s_retN, s_raise, s_brk, s_cont, s_lams, s_pass, s_frz, k_frzO, k_frzV, s_retV, k_retO, k_retV, s_ret_non, s_ret_bl, s_ret_int, s_ret_str, s_ret_con, s_ret_bin, s_ret_neg, s_ret_cmp, s_ret_chain, s_ret_chain3, s_ret_lrng, s_ret_and, s_ret_or, s_ret_not, s_ret_ite, s_ret_tup, s_ret_lst, s_ret_idx, s_ret_slc, s_ret_call, s_ret_callK, s_ret_op0, s_ret_op1, s_ret_callM, s_ret_blt, s_ret_isx, s_ret_errs, s_ret_isk, s_ret_comp, s_app, k_runR, k_runN, for_nil, k_forN, k_forC, k_forB, k_forR, g_nm, g_tp, o_some, noErr_ret, Yes, retK, ret_bind, err_bind, bad_bind, draw_bind, getV, slOf, slO, setAll, parT, List.length_cons, List.length_nil, List.map_cons, List.map_nil, List.getElem?_cons_zero, List.getElem?_cons_succ, List.set_cons_zero, List.set_cons_succ, List.cons_append, List.nil_append, List.replicate_succ, List.replicate_zero, ix50, ix51, ix52, ix53, ix54]
    unfold t7_1
    simp only [e_non, e_bl, e_int, e_str, e_var, e_con, e_bin, e_neg, e_cmp, e_chain, e_chain3, e_lrng, e_and, e_or, e_not, e_ite, e_tup, e_lst, e_idx, e_slc, e_call, e_callK, e_blt, e_isk, e_caught, e_isx, e_must, e_errs, q_must, e_op0, e_op1, e_callM, b_op1, b_callM, i_callK, i_op1, o_emp, o_revT, b_var, b_cmp, b_chain, b_chain3, b_and, b_or, b_not, b_yes, b_call, b_callK, b_blt, b_isx, b_errs, b_isk, a_nil, a_cons, r_nil, r_cons, o_nopart, o_part, i_rng1, i_rng2, i_zip, i_enum, i_cap, i_var, i_blt, i_call, i_tup, i_lst, i_idx, i_slc, q_add, q_sub, q_neg, q_lt, q_le, q_gt, q_ge, q_eqI, q_neI, q_isNN, q_isNT, q_isNI, q_isNL, q_isBB, q_isNB, q_isNS, q_isnNN, q_isnNT, q_isnNI, q_isnNL, q_andT, q_andF, q_orT, q_orF, q_not, q_toB, q_part, q_fzI, q_fzB, q_fzS, q_fzN, q_fzT, q_fzL, q_fzW, q_fzSt, q_fzSc, s_nil, s_cons, k_nx, k_rt, k_bk, k_ct, s_asg, s_asgF, s_asgT, k_asg, s_par, s_expr, s_iff, s_retN, s_raise, s_brk, s_cont, s_lams, s_pass, s_frz, k_frzO, k_frzV, s_retV, k_retO, k_retV, s_ret_non, s_ret_bl, s_ret_int, s_ret_str, s_ret_con, s_ret_bin, s_ret_neg, s_ret_cmp, s_ret_chain, s_ret_chain3, s_ret_lrng, s_ret_and, s_ret_or, s_ret_not, s_ret_ite, s_ret_tup, s_ret_lst, s_ret_idx, s_ret_slc, s_ret_call, s_ret_callK, s_ret_op0, s_ret_op1, s_ret_callM, s_ret_blt, s_ret_isx, s_ret_errs, s_ret_isk, s_ret_comp, s_app, k_runR, k_runN, for_nil, k_forN, k_forC, k_forB, k_forR, g_nm, g_tp, o_some, noErr_ret, Yes, retK, ret_bind, err_bind, bad_bind, draw_bind, getV, slOf, slO, setAll, parT, List.length_cons, List.length_nil, List.map_cons, List.map_nil, List.getElem?_cons_zero, List.getElem?_cons_succ, List.set_cons_zero, List.set_cons_succ, List.cons_append, List.nil_append, List.replicate_succ, List.replicate_zero, ix50, ix51, ix52, ix53, ix54]
  refine ⟨fun h => ?_, fun h h2 => ?_, fun h h2 => ?_⟩
  · rw [st]
    unfold t7_2
    simp only [e_non, e_bl, e_int, e_str, e_var, e_con, e_bin, e_neg, e_cmp, e_chain, e_chain3, e_lrng, e_and, e_or, e_not, e_ite, e_tup, e_lst, e_idx, e_slc, e_call, e_callK, e_blt, e_isk, e_caught, e_isx, e_must, e_errs, q_must, e_op0, e_op1, e_callM, b_op1, b_callM, i_callK, i_op1, o_emp, o_revT, b_var, b_cmp, b_chain, b_chain3, b_and, b_or, b_not, b_yes, b_call, b_callK, b_blt, b_isx, b_errs, b_isk, a_nil, a_cons, r_nil, r_cons, o_nopart, o_part, i_rng1, i_rng2, i_zip, i_enum, i_cap, i_var, i_blt, i_call, i_tup, i_lst, i_idx, i_slc, q_add, q_sub, q_neg, q_lt, q_le, q_gt, q_ge, q_eqI, q_neI, q_isNN, q_isNT, q_isNI, q_isNL, q_isBB, q_isNB, q_isNS, q_isnNN, q_isnNT, q_isnNI, q_isnNL, q_andT, q_andF, q_orT, q_orF, q_not, q_toB, q_part, q_fzI, q_fzB, q_fzS, q_fzN, q_fzT, q_fzL, q_fzW, q_fzSt, q_fzSc, s_nil, s_cons, k_nx, k_rt, k_bk, k_ct, s_asg, s_asgF, s_asgT, k_asg, s_par, s_expr, s_iff, s_retN, s_raise, s_brk, s_cont, s_lams, s_pass, s_frz, k_frzO, k_frzV, s_retV, k_retO, k_retV, s_ret_non, s_ret_bl, s_ret_int, s_ret_str, s_ret_con, s_ret_bin, s_ret_neg, s_ret_cmp, s_ret_chain, s_ret_chain3, s_ret_lrng, s_ret_and, s_ret_or, s_ret_not, s_ret_ite, s_ret_tup, s_ret_lst, s_ret_idx, s_ret_slc, s_ret_call, s_ret_callK, s_ret_op0, s_ret_op1, s_ret_callM, s_ret_blt, s_ret_isx, s_ret_errs, s_ret_isk, s_ret_comp, s_app, k_runR, k_runN, for_nil, k_forN, k_forC, k_forB, k_forR, g_nm, g_tp, o_some, noErr_ret, Yes, retK, ret_bind, err_bind, bad_bind, draw_bind, getV, slOf, slO, setAll, parT, List.length_cons, List.length_nil, List.map_cons, List.map_nil, List.getElem?_cons_zero, List.getElem?_cons_succ, List.set_cons_zero, List.set_cons_succ, List.cons_append, List.nil_append, List.replicate_succ, List.replicate_zero, ix50, ix51, ix52, ix53, ix54, h, if_true, t5]
  · rw [st]
    unfold t7_2
    simp only [e_non, e_bl, e_int, e_str, e_var, e_con, e_bin, e_neg, e_cmp, e_chain, e_chain3, e_lrng, e_and, e_or, e_not, e_ite, e_tup, e_lst, e_idx, e_slc, e_call, e_callK, e_blt, e_isk, e_caught, e_isx, e_must, e_errs, q_must, e_op0, e_op1, e_callM, b_op1, b_callM, i_callK, i_op1, o_emp, o_revT, b_var, b_cmp, b_chain, b_chain3, b_and, b_or, b_not, b_yes, b_call, b_callK, b_blt, b_isx, b_errs, b_isk, a_nil, a_cons, r_nil, r_cons, o_nopart, o_part, i_rng1, i_rng2, i_zip, i_enum, i_cap, i_var, i_blt, i_call, i_tup, i_lst, i_idx, i_slc, q_add, q_sub, q_neg, q_lt, q_le, q_gt, q_ge, q_eqI, q_neI, q_isNN, q_isNT, q_isNI, q_isNL, q_isBB, q_isNB, q_isNS, q_isnNN, q_isnNT, q_isnNI, q_isnNL, q_andT, q_andF, q_orT, q_orF, q_not, q_toB, q_part, q_fzI, q_fzB, q_fzS, q_fzN, q_fzT, q_fzL, q_fzW, q_fzSt, q_fzSc, s_nil, s_cons, k_nx, k_rt, k_bk, k_ct, s_asg, s_asgF, s_asgT, k_asg, s_par, s_expr, s_iff, s_retN, s_raise, s_brk, s_cont, s_lams, s_pass, s_frz, k_frzO, k_frzV, s_retV, k_retO, k_retV, s_ret_non, s_ret_bl, s_ret_int, s_ret_str, s_ret_con, s_ret_bin, s_ret_neg, s_ret_cmp, s_ret_chain, s_ret_chain3, s_ret_lrng, s_ret_and, s_ret_or, s_ret_not, s_ret_ite, s_ret_tup, s_ret_lst, s_ret_idx, s_ret_slc, s_ret_call, s_ret_callK, s_ret_op0, s_ret_op1, s_ret_callM, s_ret_blt, s_ret_isx, s_ret_errs, s_ret_isk, s_ret_comp, s_app, k_runR, k_runN, for_nil, k_forN, k_forC, k_forB, k_forR, g_nm, g_tp, o_some, noErr_ret, Yes, retK, ret_bind, err_bind, bad_bind, draw_bind, getV, slOf, slO, setAll, parT, List.length_cons, List.length_nil, List.map_cons, List.map_nil, List.getElem?_cons_zero, List.getElem?_cons_succ, List.set_cons_zero, List.set_cons_succ, List.cons_append, List.nil_append, List.replicate_succ, List.replicate_zero, ix50, ix51, ix52, ix53, ix54, h, Bool.false_eq_true, if_false]
    unfold t7_3
    simp only [e_non, e_bl, e_int, e_str, e_var, e_con, e_bin, e_neg, e_cmp, e_chain, e_chain3, e_lrng, e_and, e_or, e_not, e_ite, e_tup, e_lst, e_idx, e_slc, e_call, e_callK, e_blt, e_isk, e_caught, e_isx, e_must, e_errs, q_must, e_op0, e_op1, e_callM, b_op1, b_callM, i_callK, i_op1, o_emp, o_revT, b_var, b_cmp, b_chain, b_chain3, b_and, b_or, b_not, b_yes, b_call, b_callK, b_blt, b_isx, b_errs, b_isk, a_nil, a_cons, r_nil, r_cons, o_nopart, o_part, i_rng1, i_rng2, i_zip, i_enum, i_cap, i_var, i_blt, i_call, i_tup, i_lst, i_idx, i_slc, q_add, q_sub, q_neg, q_lt, q_le, q_gt, q_ge, q_eqI, q_neI, q_isNN, q_isNT, q_isNI, q_isNL, q_isBB, q_isNB, q_isNS, q_isnNN, q_isnNT, q_isnNI, q_isnNL, q_andT, q_andF, q_orT, q_orF, q_not, q_toB, q_part, q_fzI, q_fzB, q_fzS, q_fzN, q_fzT, q_fzL, q_fzW, q_fzSt, q_fzSc, s_nil, s_cons, k_nx, k_rt, k_bk, k_ct, s_asg, s_asgF, s_asgT, k_asg, s_par, s_expr, s_iff, s_retN, s_raise, s_brk, s_cont, s_lams, s_pass, s_frz, k_frzO, k_frzV, s_retV, k_retO, k_retV, s_ret_non, s_ret_bl, s_ret_int, s_ret_str, s_ret_con, s_ret_bin, s_ret_neg, s_ret_cmp, s_ret_chain, s_ret_chain3, s_ret_lrng, s_ret_and, s_ret_or, s_ret_not, s_ret_ite, s_ret_tup, s_ret_lst, s_ret_idx, s_ret_slc, s_ret_call, s_ret_callK, s_ret_op0, s_ret_op1, s_ret_callM, s_ret_blt, s_ret_isx, s_ret_errs, s_ret_isk, s_ret_comp, s_app, k_runR, k_runN, for_nil, k_forN, k_forC, k_forB, k_forR, g_nm, g_tp, o_some, noErr_ret, Yes, retK, ret_bind, err_bind, bad_bind, draw_bind, getV, slOf, slO, setAll, parT, List.length_cons, List.length_nil, List.map_cons, List.map_nil, List.getElem?_cons_zero, List.getElem?_cons_succ, List.set_cons_zero, List.set_cons_succ, List.cons_append, List.nil_append, List.replicate_succ, List.replicate_zero, ix50, ix51, ix52, ix53, ix54, h2, if_true, t5]
  · rw [st]
    unfold t7_2
    simp only [e_non, e_bl, e_int, e_str, e_var, e_con, e_bin, e_neg, e_cmp, e_chain, e_chain3, e_lrng, e_and, e_or, e_not, e_ite, e_tup, e_lst, e_idx, e_slc, e_call, e_callK, e_blt, e_isk, e_caught, e_isx, e_must, e_errs, q_must, e_op0, e_op1, e_callM, b_op1, b_callM, i_callK, i_op1, o_emp, o_revT, b_var, b_cmp, b_chain, b_chain3, b_and, b_or, b_not, b_yes, b_call, b_callK, b_blt, b_isx, b_errs, b_isk, a_nil, a_cons, r_nil, r_cons, o_nopart, o_part, i_rng1, i_rng2, i_zip, i_enum, i_cap, i_var, i_blt, i_call, i_tup, i_lst, i_idx, i_slc, q_add, q_sub, q_neg, q_lt, q_le, q_gt, q_ge, q_eqI, q_neI, q_isNN, q_isNT, q_isNI, q_isNL, q_isBB, q_isNB, q_isNS, q_isnNN, q_isnNT, q_isnNI, q_isnNL, q_andT, q_andF, q_orT, q_orF, q_not, q_toB, q_part, q_fzI, q_fzB, q_fzS, q_fzN, q_fzT, q_fzL, q_fzW, q_fzSt, q_fzSc, s_nil, s_cons, k_nx, k_rt, k_bk, k_ct, s_asg, s_asgF, s_asgT, k_asg, s_par, s_expr, s_iff, s_retN, s_raise, s_brk, s_cont, s_lams, s_pass, s_frz, k_frzO, k_frzV, s_retV, k_retO, k_retV, s_ret_non, s_ret_bl, s_ret_int, s_ret_str, s_ret_con, s_ret_bin, s_ret_neg, s_ret_cmp, s_ret_chain, s_ret_chain3, s_ret_lrng, s_ret_and, s_ret_or, s_ret_not, s_ret_ite, s_ret_tup, s_ret_lst, s_ret_idx, s_ret_slc, s_ret_call, s_ret_callK, s_ret_op0, s_ret_op1, s_ret_callM, s_ret_blt, s_ret_isx, s_ret_errs, s_ret_isk, s_ret_comp, s_app, k_runR, k_runN, for_nil, k_forN, k_forC, k_forB, k_forR, g_nm, g_tp, o_some, noErr_ret, Yes, retK, ret_bind, err_bind, bad_bind, draw_bind, getV, slOf, slO, setAll, parT, List.length_cons, List.length_nil, List.map_cons, List.map_nil, List.getElem?_cons_zero, List.getElem?_cons_succ, List.set_cons_zero, List.set_cons_succ, List.cons_append, List.nil_append, List.replicate_succ, List.replicate_zero, ix50, ix51, ix52, ix53, ix54, h, Bool.false_eq_true, if_false]
    unfold t7_3
    simp only [e_non, e_bl, e_int, e_str, e_var, e_con, e_bin, e_neg, e_cmp, e_chain, e_chain3, e_lrng, e_and, e_or, e_not, e_ite, e_tup, e_lst, e_idx, e_slc, e_call, e_callK, e_blt, e_isk, e_caught, e_isx, e_must, e_errs, q_must, e_op0, e_op1, e_callM, b_op1, b_callM, i_callK, i_op1, o_emp, o_revT, b_var, b_cmp, b_chain, b_chain3, b_and, b_or, b_not, b_yes, b_call, b_callK, b_blt, b_isx, b_errs, b_isk, a_nil, a_cons, r_nil, r_cons, o_nopart, o_part, i_rng1, i_rng2, i_zip, i_enum, i_cap, i_var, i_blt, i_call, i_tup, i_lst, i_idx, i_slc, q_add, q_sub, q_neg, q_lt, q_le, q_gt, q_ge, q_eqI, q_neI, q_isNN, q_isNT, q_isNI, q_isNL, q_isBB, q_isNB, q_isNS, q_isnNN, q_isnNT, q_isnNI, q_isnNL, q_andT, q_andF, q_orT, q_orF, q_not, q_toB, q_part, q_fzI, q_fzB, q_fzS, q_fzN, q_fzT, q_fzL, q_fzW, q_fzSt, q_fzSc, s_nil, s_cons, k_nx, k_rt, k_bk, k_ct, s_asg, s_asgF, s_asgT, k_asg, s_par, s_expr, s_iff, s_retN, s_raise, s_brk, s_cont, s_lams, s_pass, s_frz, k_frzO, k_frzV, s_retV, k_retO, k_retV, s_ret_non, s_ret_bl, s_ret_int, s_ret_str, s_ret_con, s_ret_bin, s_ret_neg, s_ret_cmp, s_ret_chain, s_ret_chain3, s_ret_lrng, s_ret_and, s_ret_or, s_ret_not, s_ret_ite, s_ret_tup, s_ret_lst, s_ret_idx, s_ret_slc, s_ret_call, s_ret_callK, s_ret_op0, s_ret_op1, s_ret_callM, s_ret_blt, s_ret_isx, s_ret_errs, s_ret_isk, s_ret_comp, s_app, k_runR, k_runN, for_nil, k_forN, k_forC, k_forB, k_forR, g_nm, g_tp, o_some, noErr_ret, Yes, retK, ret_bind, err_bind, bad_bind, draw_bind, getV, slOf, slO, setAll, parT, List.length_cons, List.length_nil, List.map_cons, List.map_nil, List.getElem?_cons_zero, List.getElem?_cons_succ, List.set_cons_zero, List.set_cons_succ, List.cons_append, List.nil_append, List.replicate_succ, List.replicate_zero, ix50, ix51, ix52, ix53, ix54, h2, Bool.false_eq_true, if_false]
    unfold t7_4
    simp only [e_non, e_bl, e_int, e_str, e_var, e_con, e_bin, e_neg, e_cmp, e_chain, e_chain3, e_lrng, e_and, e_or, e_not, e_ite, e_tup, e_lst, e_idx, e_slc, e_call, e_callK, e_blt, e_isk, e_caught, e_isx, e_must, e_errs, q_must, e_op0, e_op1, e_callM, b_op1, b_callM, i_callK, i_op1, o_emp, o_revT, b_var, b_cmp, b_chain, b_chain3, b_and, b_or, b_not, b_yes, b_call, b_callK, b_blt, b_isx, b_errs, b_isk, a_nil, a_cons, r_nil, r_cons, o_nopart, o_part, i_rng1, i_rng2, i_zip, i_enum, i_cap, i_var, i_blt, i_call, i_tup, i_lst, i_idx, i_slc, q_add, q_sub, q_neg, q_lt, q_le, q_gt, q_ge, q_eqI, q_neI, q_isNN, q_isNT, q_isNI, q_isNL, q_isBB, q_isNB, q_isNS, q_isnNN, q_isnNT, q_isnNI, q_isnNL, q_andT, q_andF, q_orT, q_orF, q_not, q_toB, q_part, q_fzI, q_fzB, q_fzS, q_fzN, q_fzT, q_fzL, q_fzW, q_fzSt, q_fzSc, s_nil, s_cons, k_nx, k_rt, k_bk, k_ct, s_asg, s_asgF, s_asgT, k_asg, s_par, s_expr, s_iff, s_retN, s_raise, s_brk, s_cont, s_lams, s_pass, s_frz, k_frzO, k_frzV, s_retV, k_retO, k_retV, s_ret_non, s_ret_bl, s_ret_int, s_ret_str, s_ret_con, s_ret_bin, s_ret_neg, s_ret_cmp, s_ret_chain, s_ret_chain3, s_ret_lrng, s_ret_and, s_ret_or, s_ret_not, s_ret_ite, s_ret_tup, s_ret_lst, s_ret_idx, s_ret_slc, s_ret_call, s_ret_callK, s_ret_op0, s_ret_op1, s_ret_callM, s_ret_blt, s_ret_isx, s_ret_errs, s_ret_isk, s_ret_comp, s_app, k_runR, k_runN, for_nil, k_forN, k_forC, k_forB, k_forR, g_nm, g_tp, o_some, noErr_ret, Yes, retK, ret_bind, err_bind, bad_bind, draw_bind, getV, slOf, slO, setAll, parT, List.length_cons, List.length_nil, List.map_cons, List.map_nil, List.getElem?_cons_zero, List.getElem?_cons_succ, List.set_cons_zero, List.set_cons_succ, List.cons_append, List.nil_append, List.replicate_succ, List.replicate_zero, ix50, ix51, ix52, ix53, ix54, max_int]
    unfold t7_5
    simp only [e_non, e_bl, e_int, e_str, e_var, e_con, e_bin, e_neg, e_cmp, e_chain, e_chain3, e_lrng, e_and, e_or, e_not, e_ite, e_tup, e_lst, e_idx, e_slc, e_call, e_callK, e_blt, e_isk, e_caught, e_isx, e_must, e_errs, q_must, e_op0, e_op1, e_callM, b_op1, b_callM, i_callK, i_op1, o_emp, o_revT, b_var, b_cmp, b_chain, b_chain3, b_and, b_or, b_not, b_yes, b_call, b_callK, b_blt, b_isx, b_errs, b_isk, a_nil, a_cons, r_nil, r_cons, o_nopart, o_part, i_rng1, i_rng2, i_zip, i_enum, i_cap, i_var, i_blt, i_call, i_tup, i_lst, i_idx, i_slc, q_add, q_sub, q_neg, q_lt, q_le, q_gt, q_ge, q_eqI, q_neI, q_isNN, q_isNT, q_isNI, q_isNL, q_isBB, q_isNB, q_isNS, q_isnNN, q_isnNT, q_isnNI, q_isnNL, q_andT, q_andF, q_orT, q_orF, q_not, q_toB, q_part, q_fzI, q_fzB, q_fzS, q_fzN, q_fzT, q_fzL, q_fzW, q_fzSt, q_fzSc, s_nil, s_cons, k_nx, k_rt, k_bk, k_ct, s_asg, s_asgF, s_asgT, k_asg, s_par, s_expr, s_iff, s_retN, s_raise, s_brk, s_cont, s_lams, s_pass, s_frz, k_frzO, k_frzV, s_retV, k_retO, k_retV, s_ret_non, s_ret_bl, s_ret_int, s_ret_str, s_ret_con, s_ret_bin, s_ret_neg, s_ret_cmp, s_ret_chain, s_ret_chain3, s_ret_lrng, s_ret_and, s_ret_or, s_ret_not, s_ret_ite, s_ret_tup, s_ret_lst, s_ret_idx, s_ret_slc, s_ret_call, s_ret_callK, s_ret_op0, s_ret_op1, s_ret_callM, s_ret_blt, s_ret_isx, s_ret_errs, s_ret_isk, s_ret_comp, s_app, k_runR, k_runN, for_nil, k_forN, k_forC, k_forB, k_forR, g_nm, g_tp, o_some, noErr_ret, Yes, retK, ret_bind, err_bind, bad_bind, draw_bind, getV, slOf, slO, setAll, parT, List.length_cons, List.length_nil, List.map_cons, List.map_nil, List.getElem?_cons_zero, List.getElem?_cons_succ, List.set_cons_zero, List.set_cons_succ, List.cons_append, List.nil_append, List.replicate_succ, List.replicate_zero, ix50, ix51, ix52, ix53, ix54, max_int]
    unfold t7_6
    simp only [e_non, e_bl, e_int, e_str, e_var, e_con, e_bin, e_neg, e_cmp, e_chain, e_chain3, e_lrng, e_and, e_or, e_not, e_ite, e_tup, e_lst, e_idx, e_slc, e_call, e_callK, e_blt, e_isk, e_caught, e_isx, e_must, e_errs, q_must, e_op0, e_op1, e_callM, b_op1, b_callM, i_callK, i_op1, o_emp, o_revT, b_var, b_cmp, b_chain, b_chain3, b_and, b_or, b_not, b_yes, b_call, b_callK, b_blt, b_isx, b_errs, b_isk, a_nil, a_cons, r_nil, r_cons, o_nopart, o_part, i_rng1, i_rng2, i_zip, i_enum, i_cap, i_var, i_blt, i_call, i_tup, i_lst, i_idx, i_slc, q_add, q_sub, q_neg, q_lt, q_le, q_gt, q_ge, q_eqI, q_neI, q_isNN, q_isNT, q_isNI, q_isNL, q_isBB, q_isNB, q_isNS, q_isnNN, q_isnNT, q_isnNI, q_isnNL, q_andT, q_andF, q_orT, q_orF, q_not, q_toB, q_part, q_fzI, q_fzB, q_fzS, q_fzN, q_fzT, q_fzL, q_fzW, q_fzSt, q_fzSc, s_nil, s_cons, k_nx, k_rt, k_bk, k_ct, s_asg, s_asgF, s_asgT, k_asg, s_par, s_expr, s_iff, s_retN, s_raise, s_brk, s_cont, s_lams, s_pass, s_frz, k_frzO, k_frzV, s_retV, k_retO, k_retV, s_ret_non, s_ret_bl, s_ret_int, s_ret_str, s_ret_con, s_ret_bin, s_ret_neg, s_ret_cmp, s_ret_chain, s_ret_chain3, s_ret_lrng, s_ret_and, s_ret_or, s_ret_not, s_ret_ite, s_ret_tup, s_ret_lst, s_ret_idx, s_ret_slc, s_ret_call, s_ret_callK, s_ret_op0, s_ret_op1, s_ret_callM, s_ret_blt, s_ret_isx, s_ret_errs, s_ret_isk, s_ret_comp, s_app, k_runR, k_runN, for_nil, k_forN, k_forC, k_forB, k_forR, g_nm, g_tp, o_some, noErr_ret, Yes, retK, ret_bind, err_bind, bad_bind, draw_bind, getV, slOf, slO, setAll, parT, List.length_cons, List.length_nil, List.map_cons, List.map_nil, List.getElem?_cons_zero, List.getElem?_cons_succ, List.set_cons_zero, List.set_cons_succ, List.cons_append, List.nil_append, List.replicate_succ, List.replicate_zero, ix50, ix51, ix52, ix53, ix54, max_int, t5]
theorem f7 {n : Nat} {p q : St} : callF tab WH (n + 1) 7 [stD p, stD q] = .ret (stD (lk p q)) := by
  show runD (callF tab WH n) WH d7 _ = _
  rw [run_eq rfl]
  obtain ⟨pe, pa, pb, pl, pu⟩ := p
  obtain ⟨qe, qa, qb, ql, qu⟩ := q
  unfold stD lk
  by_cases h : pe + pb - pa ≤ qa
  · rw [f7i.1 (decide_eq_true h), if_pos h]
    rfl
  · by_cases h2 : qb ≤ pe
    · rw [f7i.2.1 (decide_eq_false h) (decide_eq_true h2), if_neg h, if_pos h2]
      rfl
    · rw [f7i.2.2 (decide_eq_false h) (decide_eq_false h2), if_neg h, if_neg h2]
      rfl
theorem f8 {n : Nat} {f c : Int} (h : Pot f c) {p q : St} (op : Ok f c p) (oq : Ok f c q) : callF tab WH (n + 6) 8 [potD f c, stD p, stD q] = .ret (stD (lk p q)) := by
  show runD (callF tab WH (n + 5)) WH d8 _ = _
  rw [run_eq rfl]
  have e1 := f6 (n := n) h op
  have e2 := f6 (n := n) h oq
  have e3 := f7 (n := n + 4) (p := p) (q := q)
  have fz1 : fz (potD f c) = .ret (potD f c) := rfl
  have fz2 : fz (stD p) = .ret (stD p) := rfl
  have fz3 : fz (stD q) = .ret (stD q) := rfl
  have rk : retK (stD (lk p q)) = .ret (.rt (stD (lk p q))) := rfl
  generalize lk p q = r at *
  simp only [d8, startE]
  simp only [e_non, e_bl, e_int, e_str, e_var, e_con, e_bin, e_neg, e_cmp, e_chain, e_chain3, e_lrng, e_and, e_or, e_not, e_ite, e_tup, e_lst, e_idx, e_slc, e_call, e_callK, e_blt, e_isk, e_caught, e_isx, e_must, e_errs, q_must, e_op0, e_op1, e_callM, b_op1, b_callM, i_callK, i_op1, o_emp, o_revT, b_var, b_cmp, b_chain, b_chain3, b_and, b_or, b_not, b_yes, b_call, b_callK, b_blt, b_isx, b_errs, b_isk, a_nil, a_cons, r_nil, r_cons, o_nopart, o_part, i_rng1, i_rng2, i_zip, i_enum, i_cap, i_var, i_blt, i_call, i_tup, i_lst, i_idx, i_slc, q_add, q_sub, q_neg, q_lt, q_le, q_gt, q_ge, q_eqI, q_neI, q_isNN, q_isNT, q_isNI, q_isNL, q_isBB, q_isNB, q_isNS, q_isnNN, q_isnNT, q_isnNI, q_isnNL, q_andT, q_andF, q_orT, q_orF, q_not, q_toB, q_part, q_fzI, q_fzB, q_fzS, q_fzN, q_fzT, q_fzL, q_fzW, q_fzSt, q_fzSc, s_nil, s_cons, k_nx, k_rt, k_bk, k_ct, s_asg, s_asgF, s_asgT, k_asg, s_par, s_expr, s_iff, s_retN, s_raise, s_brk, s_cont, s_lams, s_pass, s_frz, k_frzO, k_frzV, s_retV, k_retO, k_retV, s_ret_non, s_ret_bl, s_ret_int, s_ret_str, s_ret_con, s_ret_bin, s_ret_neg, s_ret_cmp, s_ret_chain, s_ret_chain3, s_ret_lrng, s_ret_and, s_ret_or, s_ret_not, s_ret_ite, s_ret_tup, s_ret_lst, s_ret_idx, s_ret_slc, s_ret_call, s_ret_callK, s_ret_op0, s_ret_op1, s_ret_callM, s_ret_blt, s_ret_isx, s_ret_errs, s_ret_isk, s_ret_comp, s_app, k_runR, k_runN, for_nil, k_forN, k_forC, k_forB, k_forR, g_nm, g_tp, o_some, noErr_ret, Yes, retK, ret_bind, err_bind, bad_bind, draw_bind, getV, slOf, slO, setAll, parT, List.length_cons, List.length_nil, List.map_cons, List.map_nil, List.getElem?_cons_zero, List.getElem?_cons_succ, List.set_cons_zero, List.set_cons_succ, List.cons_append, List.nil_append, List.replicate_succ, List.replicate_zero, fz1, fz2, fz3, e1, e2, e3]
  rfl
theorem f8a {n : Nat} {f c : Int} (h : Pot f c) {v w : D} (o : NoSt f c v) (fw : fz w = .ret w) : callF tab WH (n + 6) 8 [potD f c, v, w] = .err 4 := by
  show runD (callF tab WH (n + 5)) WH d8 _ = _
  rw [run_eq rfl]
  have e1 := f6w (n := n) h o
  have fz1 : fz (potD f c) = .ret (potD f c) := rfl
  have fz2 := o.fz
  simp only [d8, startE]
  simp only [e_non, e_bl, e_int, e_str, e_var, e_con, e_bin, e_neg, e_cmp, e_chain, e_chain3, e_lrng, e_and, e_or, e_not, e_ite, e_tup, e_lst, e_idx, e_slc, e_call, e_callK, e_blt, e_isk, e_caught, e_isx, e_must, e_errs, q_must, e_op0, e_op1, e_callM, b_op1, b_callM, i_callK, i_op1, o_emp, o_revT, b_var, b_cmp, b_chain, b_chain3, b_and, b_or, b_not, b_yes, b_call, b_callK, b_blt, b_isx, b_errs, b_isk, a_nil, a_cons, r_nil, r_cons, o_nopart, o_part, i_rng1, i_rng2, i_zip, i_enum, i_cap, i_var, i_blt, i_call, i_tup, i_lst, i_idx, i_slc, q_add, q_sub, q_neg, q_lt, q_le, q_gt, q_ge, q_eqI, q_neI, q_isNN, q_isNT, q_isNI, q_isNL, q_isBB, q_isNB, q_isNS, q_isnNN, q_isnNT, q_isnNI, q_isnNL, q_andT, q_andF, q_orT, q_orF, q_not, q_toB, q_part, q_fzI, q_fzB, q_fzS, q_fzN, q_fzT, q_fzL, q_fzW, q_fzSt, q_fzSc, s_nil, s_cons, k_nx, k_rt, k_bk, k_ct, s_asg, s_asgF, s_asgT, k_asg, s_par, s_expr, s_iff, s_retN, s_raise, s_brk, s_cont, s_lams, s_pass, s_frz, k_frzO, k_frzV, s_retV, k_retO, k_retV, s_ret_non, s_ret_bl, s_ret_int, s_ret_str, s_ret_con, s_ret_bin, s_ret_neg, s_ret_cmp, s_ret_chain, s_ret_chain3, s_ret_lrng, s_ret_and, s_ret_or, s_ret_not, s_ret_ite, s_ret_tup, s_ret_lst, s_ret_idx, s_ret_slc, s_ret_call, s_ret_callK, s_ret_op0, s_ret_op1, s_ret_callM, s_ret_blt, s_ret_isx, s_ret_errs, s_ret_isk, s_ret_comp, s_app, k_runR, k_runN, for_nil, k_forN, k_forC, k_forB, k_forR, g_nm, g_tp, o_some, noErr_ret, Yes, retK, ret_bind, err_bind, bad_bind, draw_bind, getV, slOf, slO, setAll, parT, List.length_cons, List.length_nil, List.map_cons, List.map_nil, List.getElem?_cons_zero, List.getElem?_cons_succ, List.set_cons_zero, List.set_cons_succ, List.cons_append, List.nil_append, List.replicate_succ, List.replicate_zero, fz1, fz2, e1]
theorem f8b {n : Nat} {f c : Int} (h : Pot f c) {p : St} {v : D} (op : Ok f c p) (o : NoSt f c v) : callF tab WH (n + 6) 8 [potD f c, stD p, v] = .err 4 := by
  show runD (callF tab WH (n + 5)) WH d8 _ = _
  rw [run_eq rfl]
  have e1 := f6 (n := n) h op
  have e2 := f6w (n := n) h o
  have fz1 : fz (potD f c) = .ret (potD f c) := rfl
  have fz2 : fz (stD p) = .ret (stD p) := rfl
  have fz3 := o.fz
  simp only [d8, startE]
  simp only [e_non, e_bl, e_int, e_str, e_var, e_con, e_bin, e_neg, e_cmp, e_chain, e_chain3, e_lrng, e_and, e_or, e_not, e_ite, e_tup, e_lst, e_idx, e_slc, e_call, e_callK, e_blt, e_isk, e_caught, e_isx, e_must, e_errs, q_must, e_op0, e_op1, e_callM, b_op1, b_callM, i_callK, i_op1, o_emp, o_revT, b_var, b_cmp, b_chain, b_chain3, b_and, b_or, b_not, b_yes, b_call, b_callK, b_blt, b_isx, b_errs, b_isk, a_nil, a_cons, r_nil, r_cons, o_nopart, o_part, i_rng1, i_rng2, i_zip, i_enum, i_cap, i_var, i_blt, i_call, i_tup, i_lst, i_idx, i_slc, q_add, q_sub, q_neg, q_lt, q_le, q_gt, q_ge, q_eqI, q_neI, q_isNN, q_isNT, q_isNI, q_isNL, q_isBB, q_isNB, q_isNS, q_isnNN, q_isnNT, q_isnNI, q_isnNL, q_andT, q_andF, q_orT, q_orF, q_not, q_toB, q_part, q_fzI, q_fzB, q_fzS, q_fzN, q_fzT, q_fzL, q_fzW, q_fzSt, q_fzSc, s_nil, s_cons, k_nx, k_rt, k_bk, k_ct, s_asg, s_asgF, s_asgT, k_asg, s_par, s_expr, s_iff, s_retN, s_raise, s_brk, s_cont, s_lams, s_pass, s_frz, k_frzO, k_frzV, s_retV, k_retO, k_retV, s_ret_non, s_ret_bl, s_ret_int, s_ret_str, s_ret_con, s_ret_bin, s_ret_neg, s_ret_cmp, s_ret_chain, s_ret_chain3, s_ret_lrng, s_ret_and, s_ret_or, s_ret_not, s_ret_ite, s_ret_tup, s_ret_lst, s_ret_idx, s_ret_slc, s_ret_call, s_ret_callK, s_ret_op0, s_ret_op1, s_ret_callM, s_ret_blt, s_ret_isx, s_ret_errs, s_ret_isk, s_ret_comp, s_app, k_runR, k_runN, for_nil, k_forN, k_forC, k_forB, k_forR, g_nm, g_tp, o_some, noErr_ret, Yes, retK, ret_bind, err_bind, bad_bind, draw_bind, getV, slOf, slO, setAll, parT, List.length_cons, List.length_nil, List.map_cons, List.map_nil, List.getElem?_cons_zero, List.getElem?_cons_succ, List.set_cons_zero, List.set_cons_succ, List.cons_append, List.nil_append, List.replicate_succ, List.replicate_zero, fz1, fz2, fz3, e1, e2]
end LW
end
section
set_option maxHeartbeats 1000000
namespace LW
open PySem PV
theorem fz_pot {f c : Int} : fz (potD f c) = .ret (potD f c) := rfl
theorem fz_st {s : St} : fz (stD s) = .ret (stD s) := rfl
theorem f13i {k : Nat → List D → T D} {f c x y : Int} : (ex k WH d13.body (startE d13.N [.tup [.int f, .int c], .int x, .int y]) >>= runK) = .ret (.tup [.int (min c (max f (x - y))), .int (max 0 (f - (x - y))), .int (max 0 (x - y - c))]) := by
  simp only [d13, startE]
  simp only [e_non, e_bl, e_int, e_str, e_var, e_con, e_bin, e_neg, e_cmp, e_chain, e_chain3, e_lrng, e_and, e_or, e_not, e_ite, e_tup, e_lst, e_idx, e_slc, e_call, e_callK, e_blt, e_isk, e_caught, e_isx, e_must, e_errs, q_must, e_op0, e_op1, e_callM, b_op1, b_callM, i_callK, i_op1, o_emp, o_revT, b_var, b_cmp, b_chain, b_chain3, b_and, b_or, b_not, b_yes, b_call, b_callK, b_blt, b_isx, b_errs, b_isk, a_nil, a_cons, r_nil, r_cons, o_nopart, o_part, i_rng1, i_rng2, i_zip, i_enum, i_cap, i_var, i_blt, i_call, i_tup, i_lst, i_idx, i_slc, q_add, q_sub, q_neg, q_lt, q_le, q_gt, q_ge, q_eqI, q_neI, q_isNN, q_isNT, q_isNI, q_isNL, q_isBB, q_isNB, q_isNS, q_isnNN, q_isnNT, q_isnNI, q_isnNL, q_andT, q_andF, q_orT, q_orF, q_not, q_toB, q_part, q_fzI, q_fzB, q_fzS, q_fzN, q_fzT, q_fzL, q_fzW, q_fzSt, q_fzSc, s_nil, s_cons, k_nx, k_rt, k_bk, k_ct, s_asg, s_asgF, s_asgT, k_asg, s_par, s_expr, s_iff, s_retN, s_raise, s_brk, s_cont, s_lams, s_pass, s_frz, k_frzO, k_frzV, s_retV, k_retO, k_retV, s_ret_non, s_ret_bl, s_ret_int, s_ret_str, s_ret_con, s_ret_bin, s_ret_neg, s_ret_cmp, s_ret_chain, s_ret_chain3, s_ret_lrng, s_ret_and, s_ret_or, s_ret_not, s_ret_ite, s_ret_tup, s_ret_lst, s_ret_idx, s_ret_slc, s_ret_call, s_ret_callK, s_ret_op0, s_ret_op1, s_ret_callM, s_ret_blt, s_ret_isx, s_ret_errs, s_ret_isk, s_ret_comp, s_app, k_runR, k_runN, for_nil, k_forN, k_forC, k_forB, k_forR, g_nm, g_tp, o_some, noErr_ret, Yes, retK, ret_bind, err_bind, bad_bind, draw_bind, getV, slOf, slO, setAll, parT, List.length_cons, List.length_nil, List.map_cons, List.map_nil, List.getElem?_cons_zero, List.getElem?_cons_succ, List.set_cons_zero, List.set_cons_succ, List.cons_append, List.nil_append, List.replicate_succ, List.replicate_zero, ix20, ix21, min_int, max_int, t3]
theorem f13 {n : Nat} {f c x y : Int} : callF tab WH (n + 1) 13 [potD f c, .int x, .int y] = .ret (i3D (stp f c x y)) := by
  show runD (callF tab WH n) WH d13 _ = _
  rw [run_eq rfl]
  exact f13i
def t14_2 : S := .cons (.ret (.tup (.cons (.var 1) (.cons (.var 4) (.cons (.var 5) .nil))))) .nil
def t14_1 : S := .cons (.for_ (.nm 3) (.var 2) (.cons (.asgF 6 (.call 13 (.cons (.var 0) (.cons (.var 1) (.cons (.var 3) .nil))))) (.cons (.par [1, 4, 5] (.cons (.idx (.var 6) (.int 0)) (.cons (.bin .add (.var 4) (.idx (.var 6) (.int 1))) (.cons (.bin .add (.var 5) (.idx (.var 6) (.int 2))) .nil)))) .nil))) t14_2
def t14_0 : S := .cons (.asgT [4, 5] (.tup (.cons (.int 0) (.cons (.int 0) .nil)))) t14_1
theorem body14 : d14.body = t14_0 := rfl
def b14 : S := (.cons (.asgF 6 (.call 13 (.cons (.var 0) (.cons (.var 1) (.cons (.var 3) .nil))))) (.cons (.par [1, 4, 5] (.cons (.idx (.var 6) (.int 0)) (.cons (.bin .add (.var 4) (.idx (.var 6) (.int 1))) (.cons (.bin .add (.var 5) (.idx (.var 6) (.int 2))) .nil)))) .nil))
theorem step14 {k : Nat → List D → T D} {p : D} {x y a b u v w : Int} {r2 r6 : Sl} (fp : fz p = .ret p) (e : k 13 [p, .int x, .int y] = .ret (.tup [.int u, .int v, .int w])) : ex k WH b14 [.val p, .val (.int x), r2, .val (.int y), .val (.int a), .val (.int b), r6] = .ret (.nx [.val p, .val (.int u), r2, .val (.int y), .val (.int (a + v)), .val (.int (b + w)), .val (.tup [.int u, .int v, .int w])]) := by
  unfold b14
  simp only [e_non, e_bl, e_int, e_str, e_var, e_con, e_bin, e_neg, e_cmp, e_chain, e_chain3, e_lrng, e_and, e_or, e_not, e_ite, e_tup, e_lst, e_idx, e_slc, e_call, e_callK, e_blt, e_isk, e_caught, e_isx, e_must, e_errs, q_must, e_op0, e_op1, e_callM, b_op1, b_callM, i_callK, i_op1, o_emp, o_revT, b_var, b_cmp, b_chain, b_chain3, b_and, b_or, b_not, b_yes, b_call, b_callK, b_blt, b_isx, b_errs, b_isk, a_nil, a_cons, r_nil, r_cons, o_nopart, o_part, i_rng1, i_rng2, i_zip, i_enum, i_cap, i_var, i_blt, i_call, i_tup, i_lst, i_idx, i_slc, q_add, q_sub, q_neg, q_lt, q_le, q_gt, q_ge, q_eqI, q_neI, q_isNN, q_isNT, q_isNI, q_isNL, q_isBB, q_isNB, q_isNS, q_isnNN, q_isnNT, q_isnNI, q_isnNL, q_andT, q_andF, q_orT, q_orF, q_not, q_toB, q_part, q_fzI, q_fzB, q_fzS, q_fzN, q_fzT, q_fzL, q_fzW, q_fzSt, q_fzSc, s_nil, s_cons, k_nx, k_rt, k_bk, k_ct, s_asg, s_asgF, s_asgT, k_asg, s_par, s_expr, s_iff, s_retN, s_raise, s_brk, s_cont, s_lams, s_pass, s_frz, k_frzO, k_frzV, s_retV, k_retO, k_retV, s_ret_non, s_ret_bl, s_ret_int, s_ret_str, s_ret_con, s_ret_bin, s_ret_neg, s_ret_cmp, s_ret_chain, s_ret_chain3, s_ret_lrng, s_ret_and, s_ret_or, s_ret_not, s_ret_ite, s_ret_tup, s_ret_lst, s_ret_idx, s_ret_slc, s_ret_call, s_ret_callK, s_ret_op0, s_ret_op1, s_ret_callM, s_ret_blt, s_ret_isx, s_ret_errs, s_ret_isk, s_ret_comp, s_app, k_runR, k_runN, for_nil, k_forN, k_forC, k_forB, k_forR, g_nm, g_tp, o_some, noErr_ret, Yes, retK, ret_bind, err_bind, bad_bind, draw_bind, getV, slOf, slO, setAll, parT, List.length_cons, List.length_nil, List.map_cons, List.map_nil, List.getElem?_cons_zero, List.getElem?_cons_succ, List.set_cons_zero, List.set_cons_succ, List.cons_append, List.nil_append, List.replicate_succ, List.replicate_zero, fp, e, ix30, ix31, ix32]
theorem loop14 {k : Nat → List D → T D} {f c : Int} {r2 : Sl} (e : ∀ x y, k 13 [potD f c, .int x, .int y] = .ret (i3D (stp f c x y))) : ∀ (ks : List Int) (x a b : Int) (r3 r6 : Sl), ∃ y3 y6, forL (bindTg (.nm 3)) (ex k WH b14) (ks.map D.int) [.val (potD f c), .val (.int x), r2, r3, .val (.int a), .val (.int b), r6] =
      .ret (.nx [.val (potD f c), .val (.int (ks.foldl (ledS f c) (x, a, b)).1), r2, y3, .val (.int (ks.foldl (ledS f c) (x, a, b)).2.1), .val (.int (ks.foldl (ledS f c) (x, a, b)).2.2), y6])
  | [], x, a, b, r3, r6 => ⟨r3, r6, rfl⟩
  | y :: ks, x, a, b, r3, r6 => by
    obtain ⟨y3, y6, q⟩ := loop14 e ks (stp f c x y).1 (a + (stp f c x y).2.1) (b + (stp f c x y).2.2) (.val (.int y)) (.val (i3D (stp f c x y)))
    refine ⟨y3, y6, ?_⟩
    have st := step14 (k := k) (r2 := r2) (r6 := r6) (a := a) (b := b) fz_pot (e x y)
    rw [List.map_cons, for_cons, g_nm, ret_bind]
    simp only [List.length_cons, List.length_nil, List.map_cons, List.map_nil, List.getElem?_cons_zero, List.getElem?_cons_succ, List.set_cons_zero, List.set_cons_succ, List.cons_append, List.nil_append, List.replicate_succ, List.replicate_zero]
    rw [st, ret_bind, k_forN]
    exact q
theorem f14i {k : Nat → List D → T D} {p ks : D} {ds : List D} {x u v w : Int} {y3 y6 r2 : Sl} (hf : frozen ks = some ds) (e : forL (bindTg (.nm 3)) (ex k WH b14) ds [.val p, .val (.int x), .val ks, .un, .val (.int 0), .val (.int 0), .un] = .ret (.nx [.val p, .val (.int u), r2, y3, .val (.int v), .val (.int w), y6])) : (ex k WH d14.body (startE d14.N [p, .int x, ks]) >>= runK) = .ret (.tup [.int u, .int v, .int w]) := by
  rw [body14]
  simp only [d14, startE]
  unfold t14_0
  simp only [e_non, e_bl, e_int, e_str, e_var, e_con, e_bin, e_neg, e_cmp, e_chain, e_chain3, e_lrng, e_and, e_or, e_not, e_ite, e_tup, e_lst, e_idx, e_slc, e_call, e_callK, e_blt, e_isk, e_caught, e_isx, e_must, e_errs, q_must, e_op0, e_op1, e_callM, b_op1, b_callM, i_callK, i_op1, o_emp, o_revT, b_var, b_cmp, b_chain, b_chain3, b_and, b_or, b_not, b_yes, b_call, b_callK, b_blt, b_isx, b_errs, b_isk, a_nil, a_cons, r_nil, r_cons, o_nopart, o_part, i_rng1, i_rng2, i_zip, i_enum, i_cap, i_var, i_blt, i_call, i_tup, i_lst, i_idx, i_slc, q_add, q_sub, q_neg, q_lt, q_le, q_gt, q_ge, q_eqI, q_neI, q_isNN, q_isNT, q_isNI, q_isNL, q_isBB, q_isNB, q_isNS, q_isnNN, q_isnNT, q_isnNI, q_isnNL, q_andT, q_andF, q_orT, q_orF, q_not, q_toB, q_part, q_fzI, q_fzB, q_fzS, q_fzN, q_fzT, q_fzL, q_fzW, q_fzSt, q_fzSc, s_nil, s_cons, k_nx, k_rt, k_bk, k_ct, s_asg, s_asgF, s_asgT, k_asg, s_par, s_expr, s_iff, s_retN, s_raise, s_brk, s_cont, s_lams, s_pass, s_frz, k_frzO, k_frzV, s_retV, k_retO, k_retV, s_ret_non, s_ret_bl, s_ret_int, s_ret_str, s_ret_con, s_ret_bin, s_ret_neg, s_ret_cmp, s_ret_chain, s_ret_chain3, s_ret_lrng, s_ret_and, s_ret_or, s_ret_not, s_ret_ite, s_ret_tup, s_ret_lst, s_ret_idx, s_ret_slc, s_ret_call, s_ret_callK, s_ret_op0, s_ret_op1, s_ret_callM, s_ret_blt, s_ret_isx, s_ret_errs, s_ret_isk, s_ret_comp, s_app, k_runR, k_runN, for_nil, k_forN, k_forC, k_forB, k_forR, g_nm, g_tp, o_some, noErr_ret, Yes, retK, ret_bind, err_bind, bad_bind, draw_bind, getV, slOf, slO, setAll, parT, List.length_cons, List.length_nil, List.map_cons, List.map_nil, List.getElem?_cons_zero, List.getElem?_cons_succ, List.set_cons_zero, List.set_cons_succ, List.cons_append, List.nil_append, List.replicate_succ, List.replicate_zero, t2]
  unfold t14_1
  unfold b14 at e
  simp only [e_non, e_bl, e_int, e_str, e_var, e_con, e_bin, e_neg, e_cmp, e_chain, e_chain3, e_lrng, e_and, e_or, e_not, e_ite, e_tup, e_lst, e_idx, e_slc, e_call, e_callK, e_blt, e_isk, e_caught, e_isx, e_must, e_errs, q_must, e_op0, e_op1, e_callM, b_op1, b_callM, i_callK, i_op1, o_emp, o_revT, b_var, b_cmp, b_chain, b_chain3, b_and, b_or, b_not, b_yes, b_call, b_callK, b_blt, b_isx, b_errs, b_isk, a_nil, a_cons, r_nil, r_cons, o_nopart, o_part, i_rng1, i_rng2, i_zip, i_enum, i_cap, i_var, i_blt, i_call, i_tup, i_lst, i_idx, i_slc, q_add, q_sub, q_neg, q_lt, q_le, q_gt, q_ge, q_eqI, q_neI, q_isNN, q_isNT, q_isNI, q_isNL, q_isBB, q_isNB, q_isNS, q_isnNN, q_isnNT, q_isnNI, q_isnNL, q_andT, q_andF, q_orT, q_orF, q_not, q_toB, q_part, q_fzI, q_fzB, q_fzS, q_fzN, q_fzT, q_fzL, q_fzW, q_fzSt, q_fzSc, s_nil, s_cons, k_nx, k_rt, k_bk, k_ct, s_asg, s_asgF, s_asgT, k_asg, s_par, s_expr, s_iff, s_retN, s_raise, s_brk, s_cont, s_lams, s_pass, s_frz, k_frzO, k_frzV, s_retV, k_retO, k_retV, s_ret_non, s_ret_bl, s_ret_int, s_ret_str, s_ret_con, s_ret_bin, s_ret_neg, s_ret_cmp, s_ret_chain, s_ret_chain3, s_ret_lrng, s_ret_and, s_ret_or, s_ret_not, s_ret_ite, s_ret_tup, s_ret_lst, s_ret_idx, s_ret_slc, s_ret_call, s_ret_callK, s_ret_op0, s_ret_op1, s_ret_callM, s_ret_blt, s_ret_isx, s_ret_errs, s_ret_isk, s_ret_comp, s_app, k_runR, k_runN, for_nil, k_forN, k_forC, k_forB, k_forR, g_nm, g_tp, o_some, noErr_ret, Yes, retK, ret_bind, err_bind, bad_bind, draw_bind, getV, slOf, slO, setAll, parT, List.length_cons, List.length_nil, List.map_cons, List.map_nil, List.getElem?_cons_zero, List.getElem?_cons_succ, List.set_cons_zero, List.set_cons_succ, List.cons_append, List.nil_append, List.replicate_succ, List.replicate_zero, s_for, hf, e]
  unfold t14_2
  simp only [e_non, e_bl, e_int, e_str, e_var, e_con, e_bin, e_neg, e_cmp, e_chain, e_chain3, e_lrng, e_and, e_or, e_not, e_ite, e_tup, e_lst, e_idx, e_slc, e_call, e_callK, e_blt, e_isk, e_caught, e_isx, e_must, e_errs, q_must, e_op0, e_op1, e_callM, b_op1, b_callM, i_callK, i_op1, o_emp, o_revT, b_var, b_cmp, b_chain, b_chain3, b_and, b_or, b_not, b_yes, b_call, b_callK, b_blt, b_isx, b_errs, b_isk, a_nil, a_cons, r_nil, r_cons, o_nopart, o_part, i_rng1, i_rng2, i_zip, i_enum, i_cap, i_var, i_blt, i_call, i_tup, i_lst, i_idx, i_slc, q_add, q_sub, q_neg, q_lt, q_le, q_gt, q_ge, q_eqI, q_neI, q_isNN, q_isNT, q_isNI, q_isNL, q_isBB, q_isNB, q_isNS, q_isnNN, q_isnNT, q_isnNI, q_isnNL, q_andT, q_andF, q_orT, q_orF, q_not, q_toB, q_part, q_fzI, q_fzB, q_fzS, q_fzN, q_fzT, q_fzL, q_fzW, q_fzSt, q_fzSc, s_nil, s_cons, k_nx, k_rt, k_bk, k_ct, s_asg, s_asgF, s_asgT, k_asg, s_par, s_expr, s_iff, s_retN, s_raise, s_brk, s_cont, s_lams, s_pass, s_frz, k_frzO, k_frzV, s_retV, k_retO, k_retV, s_ret_non, s_ret_bl, s_ret_int, s_ret_str, s_ret_con, s_ret_bin, s_ret_neg, s_ret_cmp, s_ret_chain, s_ret_chain3, s_ret_lrng, s_ret_and, s_ret_or, s_ret_not, s_ret_ite, s_ret_tup, s_ret_lst, s_ret_idx, s_ret_slc, s_ret_call, s_ret_callK, s_ret_op0, s_ret_op1, s_ret_callM, s_ret_blt, s_ret_isx, s_ret_errs, s_ret_isk, s_ret_comp, s_app, k_runR, k_runN, for_nil, k_forN, k_forC, k_forB, k_forR, g_nm, g_tp, o_some, noErr_ret, Yes, retK, ret_bind, err_bind, bad_bind, draw_bind, getV, slOf, slO, setAll, parT, List.length_cons, List.length_nil, List.map_cons, List.map_nil, List.getElem?_cons_zero, List.getElem?_cons_succ, List.set_cons_zero, List.set_cons_succ, List.cons_append, List.nil_append, List.replicate_succ, List.replicate_zero, t3]
theorem f14 {n : Nat} {f c x : Int} {ks : List Int} : callF tab WH (n + 2) 14 [potD f c, .int x, .lst (ks.map D.int)] = .ret (i3D (led f c x ks)) := by
  show runD (callF tab WH (n + 1)) WH d14 _ = _
  rw [run_eq rfl]
  obtain ⟨y3, y6, q⟩ := loop14 (k := callF tab WH (n + 1)) (f := f) (c := c) (r2 := .val (.lst (ks.map D.int))) (fun x y => f13 (n := n)) ks x 0 0 .un .un
  exact f14i rfl q
theorem f15i {k : Nat → List D → T D} {f c : Int} {ks : D} {a1 a2 a3 b1 b2 b3 : Int} (fk : fz ks = .ret ks) (e1 : k 14 [.tup [.int f, .int c], .int f, ks] = .ret (.tup [.int a1, .int a2, .int a3])) (e2 : k 14 [.tup [.int f, .int c], .int c, ks] = .ret (.tup [.int b1, .int b2, .int b3])) :
    (ex k WH d15.body (startE d15.N [.tup [.int f, .int c], ks]) >>= runK) = .ret (.tup [.int a1, .int (f + a2 - b2), .int (c - (b3 - a3)), .int a3, .int b2]) := by
  simp only [d15, startE]
  simp only [e_non, e_bl, e_int, e_str, e_var, e_con, e_bin, e_neg, e_cmp, e_chain, e_chain3, e_lrng, e_and, e_or, e_not, e_ite, e_tup, e_lst, e_idx, e_slc, e_call, e_callK, e_blt, e_isk, e_caught, e_isx, e_must, e_errs, q_must, e_op0, e_op1, e_callM, b_op1, b_callM, i_callK, i_op1, o_emp, o_revT, b_var, b_cmp, b_chain, b_chain3, b_and, b_or, b_not, b_yes, b_call, b_callK, b_blt, b_isx, b_errs, b_isk, a_nil, a_cons, r_nil, r_cons, o_nopart, o_part, i_rng1, i_rng2, i_zip, i_enum, i_cap, i_var, i_blt, i_call, i_tup, i_lst, i_idx, i_slc, q_add, q_sub, q_neg, q_lt, q_le, q_gt, q_ge, q_eqI, q_neI, q_isNN, q_isNT, q_isNI, q_isNL, q_isBB, q_isNB, q_isNS, q_isnNN, q_isnNT, q_isnNI, q_isnNL, q_andT, q_andF, q_orT, q_orF, q_not, q_toB, q_part, q_fzI, q_fzB, q_fzS, q_fzN, q_fzT, q_fzL, q_fzW, q_fzSt, q_fzSc, s_nil, s_cons, k_nx, k_rt, k_bk, k_ct, s_asg, s_asgF, s_asgT, k_asg, s_par, s_expr, s_iff, s_retN, s_raise, s_brk, s_cont, s_lams, s_pass, s_frz, k_frzO, k_frzV, s_retV, k_retO, k_retV, s_ret_non, s_ret_bl, s_ret_int, s_ret_str, s_ret_con, s_ret_bin, s_ret_neg, s_ret_cmp, s_ret_chain, s_ret_chain3, s_ret_lrng, s_ret_and, s_ret_or, s_ret_not, s_ret_ite, s_ret_tup, s_ret_lst, s_ret_idx, s_ret_slc, s_ret_call, s_ret_callK, s_ret_op0, s_ret_op1, s_ret_callM, s_ret_blt, s_ret_isx, s_ret_errs, s_ret_isk, s_ret_comp, s_app, k_runR, k_runN, for_nil, k_forN, k_forC, k_forB, k_forR, g_nm, g_tp, o_some, noErr_ret, Yes, retK, ret_bind, err_bind, bad_bind, draw_bind, getV, slOf, slO, setAll, parT, List.length_cons, List.length_nil, List.map_cons, List.map_nil, List.getElem?_cons_zero, List.getElem?_cons_succ, List.set_cons_zero, List.set_cons_succ, List.cons_append, List.nil_append, List.replicate_succ, List.replicate_zero, ix20, ix21, fk, e1, e2, ix30, ix31, ix32, t5]
theorem f15 {n : Nat} {f c : Int} {ks : List Int} : callF tab WH (n + 3) 15 [potD f c, .lst (ks.map D.int)] = .ret (stD (strS f c ks)) := by
  show runD (callF tab WH (n + 2)) WH d15 _ = _
  rw [run_eq rfl]
  exact f15i rfl (f14 (n := n)) (f14 (n := n))
theorem f16i {k : Nat → List D → T D} {e a b l u x : Int} : (ex k WH d16.body (startE d16.N [.tup [.int e, .int a, .int b, .int l, .int u], .int x]) >>= runK) = .ret (.tup [.int (e + min b (max a x) - a), .int (u + max 0 (a - x)), .int (l + max 0 (x - b))]) := by
  simp only [d16, startE]
  simp only [e_non, e_bl, e_int, e_str, e_var, e_con, e_bin, e_neg, e_cmp, e_chain, e_chain3, e_lrng, e_and, e_or, e_not, e_ite, e_tup, e_lst, e_idx, e_slc, e_call, e_callK, e_blt, e_isk, e_caught, e_isx, e_must, e_errs, q_must, e_op0, e_op1, e_callM, b_op1, b_callM, i_callK, i_op1, o_emp, o_revT, b_var, b_cmp, b_chain, b_chain3, b_and, b_or, b_not, b_yes, b_call, b_callK, b_blt, b_isx, b_errs, b_isk, a_nil, a_cons, r_nil, r_cons, o_nopart, o_part, i_rng1, i_rng2, i_zip, i_enum, i_cap, i_var, i_blt, i_call, i_tup, i_lst, i_idx, i_slc, q_add, q_sub, q_neg, q_lt, q_le, q_gt, q_ge, q_eqI, q_neI, q_isNN, q_isNT, q_isNI, q_isNL, q_isBB, q_isNB, q_isNS, q_isnNN, q_isnNT, q_isnNI, q_isnNL, q_andT, q_andF, q_orT, q_orF, q_not, q_toB, q_part, q_fzI, q_fzB, q_fzS, q_fzN, q_fzT, q_fzL, q_fzW, q_fzSt, q_fzSc, s_nil, s_cons, k_nx, k_rt, k_bk, k_ct, s_asg, s_asgF, s_asgT, k_asg, s_par, s_expr, s_iff, s_retN, s_raise, s_brk, s_cont, s_lams, s_pass, s_frz, k_frzO, k_frzV, s_retV, k_retO, k_retV, s_ret_non, s_ret_bl, s_ret_int, s_ret_str, s_ret_con, s_ret_bin, s_ret_neg, s_ret_cmp, s_ret_chain, s_ret_chain3, s_ret_lrng, s_ret_and, s_ret_or, s_ret_not, s_ret_ite, s_ret_tup, s_ret_lst, s_ret_idx, s_ret_slc, s_ret_call, s_ret_callK, s_ret_op0, s_ret_op1, s_ret_callM, s_ret_blt, s_ret_isx, s_ret_errs, s_ret_isk, s_ret_comp, s_app, k_runR, k_runN, for_nil, k_forN, k_forC, k_forB, k_forR, g_nm, g_tp, o_some, noErr_ret, Yes, retK, ret_bind, err_bind, bad_bind, draw_bind, getV, slOf, slO, setAll, parT, List.length_cons, List.length_nil, List.map_cons, List.map_nil, List.getElem?_cons_zero, List.getElem?_cons_succ, List.set_cons_zero, List.set_cons_succ, List.cons_append, List.nil_append, List.replicate_succ, List.replicate_zero, min_int, max_int, t3]
theorem f16 {n : Nat} {s : St} {x : Int} : callF tab WH (n + 1) 16 [stD s, .int x] = .ret (i3D (act s x)) := by
  show runD (callF tab WH n) WH d16 _ = _
  rw [run_eq rfl]
  exact f16i
theorem f20i {k : Nat → List D → T D} {p q : D} {x a1 a2 a3 b1 b2 b3 : Int} (fp : fz p = .ret p) (fq : fz q = .ret q) (e1 : k 16 [p, .int x] = .ret (.tup [.int a1, .int a2, .int a3])) (e2 : k 16 [q, .int a1] = .ret (.tup [.int b1, .int b2, .int b3])) : (ex k WH d20.body (startE d20.N [p, q, .int x]) >>= runK) = .ret (.tup [.int b1, .int (a2 + b2), .int (a3 + b3)]) := by
  simp only [d20, startE]
  simp only [e_non, e_bl, e_int, e_str, e_var, e_con, e_bin, e_neg, e_cmp, e_chain, e_chain3, e_lrng, e_and, e_or, e_not, e_ite, e_tup, e_lst, e_idx, e_slc, e_call, e_callK, e_blt, e_isk, e_caught, e_isx, e_must, e_errs, q_must, e_op0, e_op1, e_callM, b_op1, b_callM, i_callK, i_op1, o_emp, o_revT, b_var, b_cmp, b_chain, b_chain3, b_and, b_or, b_not, b_yes, b_call, b_callK, b_blt, b_isx, b_errs, b_isk, a_nil, a_cons, r_nil, r_cons, o_nopart, o_part, i_rng1, i_rng2, i_zip, i_enum, i_cap, i_var, i_blt, i_call, i_tup, i_lst, i_idx, i_slc, q_add, q_sub, q_neg, q_lt, q_le, q_gt, q_ge, q_eqI, q_neI, q_isNN, q_isNT, q_isNI, q_isNL, q_isBB, q_isNB, q_isNS, q_isnNN, q_isnNT, q_isnNI, q_isnNL, q_andT, q_andF, q_orT, q_orF, q_not, q_toB, q_part, q_fzI, q_fzB, q_fzS, q_fzN, q_fzT, q_fzL, q_fzW, q_fzSt, q_fzSc, s_nil, s_cons, k_nx, k_rt, k_bk, k_ct, s_asg, s_asgF, s_asgT, k_asg, s_par, s_expr, s_iff, s_retN, s_raise, s_brk, s_cont, s_lams, s_pass, s_frz, k_frzO, k_frzV, s_retV, k_retO, k_retV, s_ret_non, s_ret_bl, s_ret_int, s_ret_str, s_ret_con, s_ret_bin, s_ret_neg, s_ret_cmp, s_ret_chain, s_ret_chain3, s_ret_lrng, s_ret_and, s_ret_or, s_ret_not, s_ret_ite, s_ret_tup, s_ret_lst, s_ret_idx, s_ret_slc, s_ret_call, s_ret_callK, s_ret_op0, s_ret_op1, s_ret_callM, s_ret_blt, s_ret_isx, s_ret_errs, s_ret_isk, s_ret_comp, s_app, k_runR, k_runN, for_nil, k_forN, k_forC, k_forB, k_forR, g_nm, g_tp, o_some, noErr_ret, Yes, retK, ret_bind, err_bind, bad_bind, draw_bind, getV, slOf, slO, setAll, parT, List.length_cons, List.length_nil, List.map_cons, List.map_nil, List.getElem?_cons_zero, List.getElem?_cons_succ, List.set_cons_zero, List.set_cons_succ, List.cons_append, List.nil_append, List.replicate_succ, List.replicate_zero, fp, fq, e1, ix30, ix31, ix32, e2, t3]
theorem f20 {n : Nat} {p q : St} {x : Int} : callF tab WH (n + 2) 20 [stD p, stD q, .int x] = .ret (i3D (thn3 p q x)) := by
  show runD (callF tab WH (n + 1)) WH d20 _ = _
  rw [run_eq rfl]
  exact f20i fz_st fz_st (f16 (n := n)) (f16 (n := n))
theorem f21i {k : Nat → List D → T D} {f c : Int} {p q : D} {a1 a2 a3 b1 b2 b3 : Int} (fp : fz p = .ret p) (fq : fz q = .ret q) (e1 : k 20 [p, q, .int f] = .ret (.tup [.int a1, .int a2, .int a3])) (e2 : k 20 [p, q, .int c] = .ret (.tup [.int b1, .int b2, .int b3])) :
    (ex k WH d21.body (startE d21.N [.tup [.int f, .int c], p, q]) >>= runK) = .ret (.tup [.int a1, .int (f + a2 - b2), .int (c - (b3 - a3)), .int a3, .int b2]) := by
  simp only [d21, startE]
  simp only [e_non, e_bl, e_int, e_str, e_var, e_con, e_bin, e_neg, e_cmp, e_chain, e_chain3, e_lrng, e_and, e_or, e_not, e_ite, e_tup, e_lst, e_idx, e_slc, e_call, e_callK, e_blt, e_isk, e_caught, e_isx, e_must, e_errs, q_must, e_op0, e_op1, e_callM, b_op1, b_callM, i_callK, i_op1, o_emp, o_revT, b_var, b_cmp, b_chain, b_chain3, b_and, b_or, b_not, b_yes, b_call, b_callK, b_blt, b_isx, b_errs, b_isk, a_nil, a_cons, r_nil, r_cons, o_nopart, o_part, i_rng1, i_rng2, i_zip, i_enum, i_cap, i_var, i_blt, i_call, i_tup, i_lst, i_idx, i_slc, q_add, q_sub, q_neg, q_lt, q_le, q_gt, q_ge, q_eqI, q_neI, q_isNN, q_isNT, q_isNI, q_isNL, q_isBB, q_isNB, q_isNS, q_isnNN, q_isnNT, q_isnNI, q_isnNL, q_andT, q_andF, q_orT, q_orF, q_not, q_toB, q_part, q_fzI, q_fzB, q_fzS, q_fzN, q_fzT, q_fzL, q_fzW, q_fzSt, q_fzSc, s_nil, s_cons, k_nx, k_rt, k_bk, k_ct, s_asg, s_asgF, s_asgT, k_asg, s_par, s_expr, s_iff, s_retN, s_raise, s_brk, s_cont, s_lams, s_pass, s_frz, k_frzO, k_frzV, s_retV, k_retO, k_retV, s_ret_non, s_ret_bl, s_ret_int, s_ret_str, s_ret_con, s_ret_bin, s_ret_neg, s_ret_cmp, s_ret_chain, s_ret_chain3, s_ret_lrng, s_ret_and, s_ret_or, s_ret_not, s_ret_ite, s_ret_tup, s_ret_lst, s_ret_idx, s_ret_slc, s_ret_call, s_ret_callK, s_ret_op0, s_ret_op1, s_ret_callM, s_ret_blt, s_ret_isx, s_ret_errs, s_ret_isk, s_ret_comp, s_app, k_runR, k_runN, for_nil, k_forN, k_forC, k_forB, k_forR, g_nm, g_tp, o_some, noErr_ret, Yes, retK, ret_bind, err_bind, bad_bind, draw_bind, getV, slOf, slO, setAll, parT, List.length_cons, List.length_nil, List.map_cons, List.map_nil, List.getElem?_cons_zero, List.getElem?_cons_succ, List.set_cons_zero, List.set_cons_succ, List.cons_append, List.nil_append, List.replicate_succ, List.replicate_zero, ix20, ix21, fp, fq, e1, e2, ix30, ix31, ix32, t5]
theorem f21 {n : Nat} {f c : Int} (h : Pot f c) {p q : St} (op : Ok f c p) (oq : Ok f c q) : callF tab WH (n + 3) 21 [potD f c, stD p, stD q] = .ret (stD (lk p q)) := by
  show runD (callF tab WH (n + 2)) WH d21 _ = _
  rw [run_eq rfl]
  have e := rd_act (lk_ok op oq)
  have hf := h.lt
  rw [lk_act op oq (Int.le_refl _) (Int.le_of_lt hf), lk_act op oq (Int.le_of_lt hf) (Int.le_refl _)] at e
  rw [← e]
  exact f21i fz_st fz_st (f20 (n := n)) (f20 (n := n))
/-! what is drawn -/
theorem dr {m : Nat} {k : Int} (h : 0 < k) (h2 : k < 2 ^ 200) : callF tab WH (m + 2) 0 [.sta, .int k] = .draw k fun d => .ret (.int d) := by
  show (if m + 1 = 0 then T.bad else drawP [.sta, .int k]) = _
  rw [if_neg (by omega)]
  show (if decide (0 < k ∧ k < 2 ^ 200) = true then T.draw k fun d => T.ret (D.int d) else T.bad) = _
  rw [if_pos (decide_eq_true ⟨h, h2⟩)]
theorem idx_D {xs : List D} {d : Int} (h0 : 0 ≤ d) (h1 : d < xs.length) : ∃ v ∈ xs, idxT (.lst xs) (.int d) = .ret v := by
  obtain ⟨i, rfl⟩ := Int.eq_ofNat_of_zero_le h0
  have hi : i < xs.length := by omega
  refine ⟨xs[i], List.getElem_mem hi, ?_⟩
  show ofO (L2.atI xs (i : Int)) = _
  rw [idx_nat (i := i) (x := xs[i]) (List.getElem?_eq_getElem hi)]
  rfl
theorem retK_kd {d : D} (h : kd d = true) : retK d = .ret (.rt d) := by
  cases d <;> first | rfl | cases h
theorem f9i {c : Nat → List D → T D} {xs : List D} {v : D} {d : Int} (hk : kd v = true) (ev : idxT (.lst xs) (.int d) = .ret v) : (idxT (.lst xs) (.int d) >>= retK >>= seqK (ex c WH .nil) >>= runK) = .ret v := by
  rw [ev, ret_bind, retK_kd hk]
  rfl
theorem f9 {n : Nat} {xs : List D} (h0 : 0 < xs.length) (h1 : xs.length < 1000) (hk : ∀ d ∈ xs, kd d = true) : Yes (fun d => d ∈ xs) (callF tab WH (n + 3) 9 [.sta, .lst xs]) := by
  refine Yes.of_eq (u := runD (callF tab WH (n + 2)) WH d9 [.sta, .lst xs]) rfl ?_
  rw [run_eq rfl]
  have hl : bltT .len [.lst xs] = .ret (.int xs.length) := rfl
  have e1 := dr (m := n) (k := xs.length) (by omega) (by omega)
  have e2 : (ex (callF tab WH (n + 2)) WH d9.body (startE d9.N [.sta, .lst xs]) >>= runK) = T.draw (xs.length : Int) fun d => (idxT (.lst xs) (.int d) >>= retK >>= seqK (ex (callF tab WH (n + 2)) WH .nil) >>= runK) := by
    simp only [d9, startE]
    simp only [List.length_cons, List.length_nil, List.map_cons, List.map_nil, List.getElem?_cons_zero, List.getElem?_cons_succ, List.set_cons_zero, List.set_cons_succ, List.cons_append, List.nil_append, List.replicate_succ, List.replicate_zero, s_cons, s_ret_idx, e_idx, e_call, e_blt, e_var, a_cons, a_nil, r_cons, r_nil, getV, ret_bind, hl, q_fzSt, q_fzI, q_fzL, e1, draw_bind]
  rw [e2]
  refine yes_draw fun d d0 d1 => ?_
  obtain ⟨v, hv, ev⟩ := idx_D d0 d1
  rw [f9i (hk v hv) ev]
  exact yes_ret hv
def t10_2 : S := .cons (.ret (.tup (.cons (.var 1) (.cons (.bin .add (.bin .add (.var 1) (.int 1)) (.call 0 (.cons (.var 0) (.cons (.int 9) .nil)))) .nil)))) .nil
def t10_1 : S := .cons (.iff (.cmp .eq (.call 0 (.cons (.var 0) (.cons (.int 4) .nil))) (.int 0)) (.cons (.asgF 1 (.bin .sub (.call 0 (.cons (.var 0) (.cons (.bin .pow (.int 10) (.int 15)) .nil))) (.bin .pow (.int 10) (.int 14)))) (.cons (.ret (.tup (.cons (.var 1) (.cons (.blt .min (.cons (.bin .sub (.bin .pow (.int 10) (.int 15)) (.int 1)) (.cons (.bin .add (.bin .add (.var 1) (.int 1)) (.call 0 (.cons (.var 0) (.cons (.bin .pow (.int 10) (.int 14)) .nil)))) .nil))) .nil)))) .nil)) .nil) t10_2
def t10_0 : S := .cons (.asgF 1 (.bin .sub (.call 0 (.cons (.var 0) (.cons (.int 9) .nil))) (.int 4))) t10_1
theorem body10 : d10.body = t10_0 := rfl
theorem pw15 : binT .pow (.int 10) (.int 15) = .ret (.int 1000000000000000) := by
  show (if (0:Int) ≤ 15 ∧ (15:Int) ≤ 1000 ∧ (10 : Int).natAbs < 2 ^ 64 then T.ret (D.int ((10:Int) ^ (15:Int).toNat)) else T.bad) = _
  rw [if_pos (by decide)]
  rfl
theorem pw14 : binT .pow (.int 10) (.int 14) = .ret (.int 100000000000000) := by
  show (if (0:Int) ≤ 14 ∧ (14:Int) ≤ 1000 ∧ (10 : Int).natAbs < 2 ^ 64 then T.ret (D.int ((10:Int) ^ (14:Int).toNat)) else T.bad) = _
  rw [if_pos (by decide)]
  rfl
theorem pw30 : binT .pow (.int 10) (.int 30) = .ret (.int 1000000000000000000000000000000) := by
  show (if (0:Int) ≤ 30 ∧ (30:Int) ≤ 1000 ∧ (10 : Int).natAbs < 2 ^ 64 then T.ret (D.int ((10:Int) ^ (30:Int).toNat)) else T.bad) = _
  rw [if_pos (by decide)]
  rfl
section
variable {k : Nat → List D → T D}
theorem s10_0 (e9 : k 0 [.sta, .int 9] = .draw 9 fun d => .ret (.int d)) : ex k WH t10_0 [.val .sta, .un] = .draw 9 fun d => ex k WH t10_1 [.val .sta, .val (.int (d - 4))] := by
  unfold t10_0
  simp only [e_non, e_bl, e_int, e_str, e_var, e_con, e_bin, e_neg, e_cmp, e_chain, e_chain3, e_lrng, e_and, e_or, e_not, e_ite, e_tup, e_lst, e_idx, e_slc, e_call, e_callK, e_blt, e_isk, e_caught, e_isx, e_must, e_errs, q_must, e_op0, e_op1, e_callM, b_op1, b_callM, i_callK, i_op1, o_emp, o_revT, b_var, b_cmp, b_chain, b_chain3, b_and, b_or, b_not, b_yes, b_call, b_callK, b_blt, b_isx, b_errs, b_isk, a_nil, a_cons, r_nil, r_cons, o_nopart, o_part, i_rng1, i_rng2, i_zip, i_enum, i_cap, i_var, i_blt, i_call, i_tup, i_lst, i_idx, i_slc, q_add, q_sub, q_neg, q_lt, q_le, q_gt, q_ge, q_eqI, q_neI, q_isNN, q_isNT, q_isNI, q_isNL, q_isBB, q_isNB, q_isNS, q_isnNN, q_isnNT, q_isnNI, q_isnNL, q_andT, q_andF, q_orT, q_orF, q_not, q_toB, q_part, q_fzI, q_fzB, q_fzS, q_fzN, q_fzT, q_fzL, q_fzW, q_fzSt, q_fzSc, s_nil, s_cons, k_nx, k_rt, k_bk, k_ct, s_asg, s_asgF, s_asgT, k_asg, s_par, s_expr, s_iff, s_retN, s_raise, s_brk, s_cont, s_lams, s_pass, s_frz, k_frzO, k_frzV, s_retV, k_retO, k_retV, s_ret_non, s_ret_bl, s_ret_int, s_ret_str, s_ret_con, s_ret_bin, s_ret_neg, s_ret_cmp, s_ret_chain, s_ret_chain3, s_ret_lrng, s_ret_and, s_ret_or, s_ret_not, s_ret_ite, s_ret_tup, s_ret_lst, s_ret_idx, s_ret_slc, s_ret_call, s_ret_callK, s_ret_op0, s_ret_op1, s_ret_callM, s_ret_blt, s_ret_isx, s_ret_errs, s_ret_isk, s_ret_comp, s_app, k_runR, k_runN, for_nil, k_forN, k_forC, k_forB, k_forR, g_nm, g_tp, o_some, noErr_ret, Yes, retK, ret_bind, err_bind, bad_bind, draw_bind, getV, slOf, slO, setAll, parT, List.length_cons, List.length_nil, List.map_cons, List.map_nil, List.getElem?_cons_zero, List.getElem?_cons_succ, List.set_cons_zero, List.set_cons_succ, List.cons_append, List.nil_append, List.replicate_succ, List.replicate_zero, e9]
theorem s10_1 {g : Int} {V : Fl → Prop} (e4 : k 0 [.sta, .int 4] = .draw 4 fun d => .ret (.int d)) (e15 : k 0 [.sta, .int 1000000000000000] = .draw 1000000000000000 fun d => .ret (.int d)) (e14 : k 0 [.sta, .int 100000000000000] = .draw 100000000000000 fun d => .ret (.int d)) (e9 : k 0 [.sta, .int 9] = .draw 9 fun d => .ret (.int d))
    (h1 : ∀ a b : Int, 0 ≤ a → a < 1000000000000000 → 0 ≤ b → b < 100000000000000 → V (.rt (.tup [.int (a - 100000000000000), .int (min (1000000000000000 - 1) (a - 100000000000000 + 1 + b))])))
    (h2 : ∀ a : Int, 0 ≤ a → a < 9 → V (.rt (.tup [.int g, .int (g + 1 + a)]))) : Yes V (ex k WH t10_1 [.val .sta, .val (.int g)]) := by
  unfold t10_1
  simp only [e_non, e_bl, e_int, e_str, e_var, e_con, e_bin, e_neg, e_cmp, e_chain, e_chain3, e_lrng, e_and, e_or, e_not, e_ite, e_tup, e_lst, e_idx, e_slc, e_call, e_callK, e_blt, e_isk, e_caught, e_isx, e_must, e_errs, q_must, e_op0, e_op1, e_callM, b_op1, b_callM, i_callK, i_op1, o_emp, o_revT, b_var, b_cmp, b_chain, b_chain3, b_and, b_or, b_not, b_yes, b_call, b_callK, b_blt, b_isx, b_errs, b_isk, a_nil, a_cons, r_nil, r_cons, o_nopart, o_part, i_rng1, i_rng2, i_zip, i_enum, i_cap, i_var, i_blt, i_call, i_tup, i_lst, i_idx, i_slc, q_add, q_sub, q_neg, q_lt, q_le, q_gt, q_ge, q_eqI, q_neI, q_isNN, q_isNT, q_isNI, q_isNL, q_isBB, q_isNB, q_isNS, q_isnNN, q_isnNT, q_isnNI, q_isnNL, q_andT, q_andF, q_orT, q_orF, q_not, q_toB, q_part, q_fzI, q_fzB, q_fzS, q_fzN, q_fzT, q_fzL, q_fzW, q_fzSt, q_fzSc, s_nil, s_cons, k_nx, k_rt, k_bk, k_ct, s_asg, s_asgF, s_asgT, k_asg, s_par, s_expr, s_iff, s_retN, s_raise, s_brk, s_cont, s_lams, s_pass, s_frz, k_frzO, k_frzV, s_retV, k_retO, k_retV, s_ret_non, s_ret_bl, s_ret_int, s_ret_str, s_ret_con, s_ret_bin, s_ret_neg, s_ret_cmp, s_ret_chain, s_ret_chain3, s_ret_lrng, s_ret_and, s_ret_or, s_ret_not, s_ret_ite, s_ret_tup, s_ret_lst, s_ret_idx, s_ret_slc, s_ret_call, s_ret_callK, s_ret_op0, s_ret_op1, s_ret_callM, s_ret_blt, s_ret_isx, s_ret_errs, s_ret_isk, s_ret_comp, s_app, k_runR, k_runN, for_nil, k_forN, k_forC, k_forB, k_forR, g_nm, g_tp, o_some, noErr_ret, Yes, retK, ret_bind, err_bind, bad_bind, draw_bind, getV, slOf, slO, setAll, parT, List.length_cons, List.length_nil, List.map_cons, List.map_nil, List.getElem?_cons_zero, List.getElem?_cons_succ, List.set_cons_zero, List.set_cons_succ, List.cons_append, List.nil_append, List.replicate_succ, List.replicate_zero, e4]
  refine yes_draw fun w _ _ => ?_
  by_cases hw : w = 0
  · have z : decide (w = 0) = true := decide_eq_true hw
    simp only [e_non, e_bl, e_int, e_str, e_var, e_con, e_bin, e_neg, e_cmp, e_chain, e_chain3, e_lrng, e_and, e_or, e_not, e_ite, e_tup, e_lst, e_idx, e_slc, e_call, e_callK, e_blt, e_isk, e_caught, e_isx, e_must, e_errs, q_must, e_op0, e_op1, e_callM, b_op1, b_callM, i_callK, i_op1, o_emp, o_revT, b_var, b_cmp, b_chain, b_chain3, b_and, b_or, b_not, b_yes, b_call, b_callK, b_blt, b_isx, b_errs, b_isk, a_nil, a_cons, r_nil, r_cons, o_nopart, o_part, i_rng1, i_rng2, i_zip, i_enum, i_cap, i_var, i_blt, i_call, i_tup, i_lst, i_idx, i_slc, q_add, q_sub, q_neg, q_lt, q_le, q_gt, q_ge, q_eqI, q_neI, q_isNN, q_isNT, q_isNI, q_isNL, q_isBB, q_isNB, q_isNS, q_isnNN, q_isnNT, q_isnNI, q_isnNL, q_andT, q_andF, q_orT, q_orF, q_not, q_toB, q_part, q_fzI, q_fzB, q_fzS, q_fzN, q_fzT, q_fzL, q_fzW, q_fzSt, q_fzSc, s_nil, s_cons, k_nx, k_rt, k_bk, k_ct, s_asg, s_asgF, s_asgT, k_asg, s_par, s_expr, s_iff, s_retN, s_raise, s_brk, s_cont, s_lams, s_pass, s_frz, k_frzO, k_frzV, s_retV, k_retO, k_retV, s_ret_non, s_ret_bl, s_ret_int, s_ret_str, s_ret_con, s_ret_bin, s_ret_neg, s_ret_cmp, s_ret_chain, s_ret_chain3, s_ret_lrng, s_ret_and, s_ret_or, s_ret_not, s_ret_ite, s_ret_tup, s_ret_lst, s_ret_idx, s_ret_slc, s_ret_call, s_ret_callK, s_ret_op0, s_ret_op1, s_ret_callM, s_ret_blt, s_ret_isx, s_ret_errs, s_ret_isk, s_ret_comp, s_app, k_runR, k_runN, for_nil, k_forN, k_forC, k_forB, k_forR, g_nm, g_tp, o_some, noErr_ret, Yes, retK, ret_bind, err_bind, bad_bind, draw_bind, getV, slOf, slO, setAll, parT, List.length_cons, List.length_nil, List.map_cons, List.map_nil, List.getElem?_cons_zero, List.getElem?_cons_succ, List.set_cons_zero, List.set_cons_succ, List.cons_append, List.nil_append, List.replicate_succ, List.replicate_zero, z, if_true, pw15, pw14, e15, e14, min_int, t2]
    exact yes_draw fun a a0 a1 => yes_draw fun b b0 b1 => yes_ret (h1 a b a0 a1 b0 b1)
  · have z : decide (w = 0) = false := decide_eq_false hw
    simp only [e_non, e_bl, e_int, e_str, e_var, e_con, e_bin, e_neg, e_cmp, e_chain, e_chain3, e_lrng, e_and, e_or, e_not, e_ite, e_tup, e_lst, e_idx, e_slc, e_call, e_callK, e_blt, e_isk, e_caught, e_isx, e_must, e_errs, q_must, e_op0, e_op1, e_callM, b_op1, b_callM, i_callK, i_op1, o_emp, o_revT, b_var, b_cmp, b_chain, b_chain3, b_and, b_or, b_not, b_yes, b_call, b_callK, b_blt, b_isx, b_errs, b_isk, a_nil, a_cons, r_nil, r_cons, o_nopart, o_part, i_rng1, i_rng2, i_zip, i_enum, i_cap, i_var, i_blt, i_call, i_tup, i_lst, i_idx, i_slc, q_add, q_sub, q_neg, q_lt, q_le, q_gt, q_ge, q_eqI, q_neI, q_isNN, q_isNT, q_isNI, q_isNL, q_isBB, q_isNB, q_isNS, q_isnNN, q_isnNT, q_isnNI, q_isnNL, q_andT, q_andF, q_orT, q_orF, q_not, q_toB, q_part, q_fzI, q_fzB, q_fzS, q_fzN, q_fzT, q_fzL, q_fzW, q_fzSt, q_fzSc, s_nil, s_cons, k_nx, k_rt, k_bk, k_ct, s_asg, s_asgF, s_asgT, k_asg, s_par, s_expr, s_iff, s_retN, s_raise, s_brk, s_cont, s_lams, s_pass, s_frz, k_frzO, k_frzV, s_retV, k_retO, k_retV, s_ret_non, s_ret_bl, s_ret_int, s_ret_str, s_ret_con, s_ret_bin, s_ret_neg, s_ret_cmp, s_ret_chain, s_ret_chain3, s_ret_lrng, s_ret_and, s_ret_or, s_ret_not, s_ret_ite, s_ret_tup, s_ret_lst, s_ret_idx, s_ret_slc, s_ret_call, s_ret_callK, s_ret_op0, s_ret_op1, s_ret_callM, s_ret_blt, s_ret_isx, s_ret_errs, s_ret_isk, s_ret_comp, s_app, k_runR, k_runN, for_nil, k_forN, k_forC, k_forB, k_forR, g_nm, g_tp, o_some, noErr_ret, Yes, retK, ret_bind, err_bind, bad_bind, draw_bind, getV, slOf, slO, setAll, parT, List.length_cons, List.length_nil, List.map_cons, List.map_nil, List.getElem?_cons_zero, List.getElem?_cons_succ, List.set_cons_zero, List.set_cons_succ, List.cons_append, List.nil_append, List.replicate_succ, List.replicate_zero, z, Bool.false_eq_true, if_false]
    unfold t10_2
    simp only [e_non, e_bl, e_int, e_str, e_var, e_con, e_bin, e_neg, e_cmp, e_chain, e_chain3, e_lrng, e_and, e_or, e_not, e_ite, e_tup, e_lst, e_idx, e_slc, e_call, e_callK, e_blt, e_isk, e_caught, e_isx, e_must, e_errs, q_must, e_op0, e_op1, e_callM, b_op1, b_callM, i_callK, i_op1, o_emp, o_revT, b_var, b_cmp, b_chain, b_chain3, b_and, b_or, b_not, b_yes, b_call, b_callK, b_blt, b_isx, b_errs, b_isk, a_nil, a_cons, r_nil, r_cons, o_nopart, o_part, i_rng1, i_rng2, i_zip, i_enum, i_cap, i_var, i_blt, i_call, i_tup, i_lst, i_idx, i_slc, q_add, q_sub, q_neg, q_lt, q_le, q_gt, q_ge, q_eqI, q_neI, q_isNN, q_isNT, q_isNI, q_isNL, q_isBB, q_isNB, q_isNS, q_isnNN, q_isnNT, q_isnNI, q_isnNL, q_andT, q_andF, q_orT, q_orF, q_not, q_toB, q_part, q_fzI, q_fzB, q_fzS, q_fzN, q_fzT, q_fzL, q_fzW, q_fzSt, q_fzSc, s_nil, s_cons, k_nx, k_rt, k_bk, k_ct, s_asg, s_asgF, s_asgT, k_asg, s_par, s_expr, s_iff, s_retN, s_raise, s_brk, s_cont, s_lams, s_pass, s_frz, k_frzO, k_frzV, s_retV, k_retO, k_retV, s_ret_non, s_ret_bl, s_ret_int, s_ret_str, s_ret_con, s_ret_bin, s_ret_neg, s_ret_cmp, s_ret_chain, s_ret_chain3, s_ret_lrng, s_ret_and, s_ret_or, s_ret_not, s_ret_ite, s_ret_tup, s_ret_lst, s_ret_idx, s_ret_slc, s_ret_call, s_ret_callK, s_ret_op0, s_ret_op1, s_ret_callM, s_ret_blt, s_ret_isx, s_ret_errs, s_ret_isk, s_ret_comp, s_app, k_runR, k_runN, for_nil, k_forN, k_forC, k_forB, k_forR, g_nm, g_tp, o_some, noErr_ret, Yes, retK, ret_bind, err_bind, bad_bind, draw_bind, getV, slOf, slO, setAll, parT, List.length_cons, List.length_nil, List.map_cons, List.map_nil, List.getElem?_cons_zero, List.getElem?_cons_succ, List.set_cons_zero, List.set_cons_succ, List.cons_append, List.nil_append, List.replicate_succ, List.replicate_zero, e9, t2]
    exact yes_draw fun a a0 a1 => yes_ret (h2 a a0 a1)
end
def PotV (d : D) : Prop := ∃ f c, d = potD f c ∧ Pot f c
theorem f10 {n : Nat} : Yes PotV (callF tab WH (n + 3) 10 [.sta]) := by
  refine Yes.of_eq (u := runD (callF tab WH (n + 2)) WH d10 [.sta]) rfl ?_
  rw [run_eq rfl, body10, show startE d10.N [.sta] = [.val .sta, .un] from rfl]
  refine yes_then (P := fun fl => ∃ d, PotV d ∧ fl = .rt d) ?_ (fun fl h => ?_)
  · rw [s10_0 (dr (by decide) (by decide))]
    refine yes_draw fun d d0 d1 => ?_
    refine s10_1 (dr (by decide) (by decide)) (dr (by decide) (by decide)) (dr (by decide) (by decide)) (dr (by decide) (by decide)) (fun a b a0 a1 b0 b1 => ?_) (fun a a0 a1 => ?_)
    · exact ⟨_, ⟨_, _, rfl, ⟨by omega, by omega, by omega⟩⟩, rfl⟩
    · exact ⟨_, ⟨_, _, rfl, ⟨by omega, by omega, by omega⟩⟩, rfl⟩
  · obtain ⟨d, hd, rfl⟩ := h
    exact yes_ret hd
end LW
end
section
set_option maxHeartbeats 1000000
namespace LW
open PySem PV
theorem rng1_T {hi : Int} (h3 : -1000000 ≤ hi) (h4 : hi ≤ 1000000) : ∃ l : List Int, rng1T (.int hi) = .ret (l.map D.int) ∧ l.length = hi.toNat := by
  refine ⟨(List.range hi.toNat).map fun k => 0 + ((k : Nat) : Int), ?_, by simp⟩
  show rngI 0 hi = _
  rw [rng_ok ⟨by omega, by omega, by omega, by omega, by show _ ≤ 16777216; omega⟩, List.map_map, Int.sub_zero]
  rfl
def t11_2 : S := .cons (.ret (.ite (.cmp .eq (.call 0 (.cons (.var 0) (.cons (.int 2) .nil))) (.int 0)) (.neg (.var 3)) (.var 3))) .nil
def t11_1 : S := .cons (.iff (.cmp .eq (.var 2) (.int 0)) (.cons (.asgF 3 (.call 0 (.cons (.var 0) (.cons (.int 3) .nil)))) .nil) (.cons (.iff (.cmp .lt (.var 2) (.int 3)) (.cons (.asgF 3 (.call 0 (.cons (.var 0) (.cons (.bin .add (.var 1) (.int 1)) .nil)))) .nil) (.cons (.iff (.cmp .eq (.var 2) (.int 3)) (.cons (.asgF 3 (.bin .sub (.bin .add (.var 1) (.call 0 (.cons (.var 0) (.cons (.int 3) .nil)))) (.int 1))) .nil) (.cons (.asgF 3 (.call 0 (.cons (.var 0) (.cons (.bin .add (.bin .mul (.int 3) (.var 1)) (.int 2)) .nil)))) .nil)) .nil)) .nil)) t11_2
def t11_0 : S := .cons (.asgF 2 (.call 0 (.cons (.var 0) (.cons (.int 5) .nil)))) t11_1
theorem body11 : d11.body = t11_0 := rfl
def t12_0 : S := .cons (.ret (.comp (.nm 3) (.rng1 (.call 0 (.cons (.var 0) (.cons (.bin .add (.var 2) (.int 1)) .nil)))) .yes (.call 11 (.cons (.var 0) (.cons (.bin .sub (.idx (.var 1) (.int 1)) (.idx (.var 1) (.int 0))) .nil))) [("turn", 3)])) .nil
theorem body12 : d12.body = t12_0 := rfl
section
variable {k : Nat → List D → T D}
theorem s11_2 {w x : Int} {r2 : Sl} (e2 : k 0 [.sta, .int 2] = .draw 2 fun d => .ret (.int d)) : Yes (fun fl => ∃ i : Int, fl = .rt (.int i)) (ex k WH t11_2 [.val .sta, .val (.int w), r2, .val (.int x)]) := by
  unfold t11_2
  simp only [e_non, e_bl, e_int, e_str, e_var, e_con, e_bin, e_neg, e_cmp, e_chain, e_chain3, e_lrng, e_and, e_or, e_not, e_ite, e_tup, e_lst, e_idx, e_slc, e_call, e_callK, e_blt, e_isk, e_caught, e_isx, e_must, e_errs, q_must, e_op0, e_op1, e_callM, b_op1, b_callM, i_callK, i_op1, o_emp, o_revT, b_var, b_cmp, b_chain, b_chain3, b_and, b_or, b_not, b_yes, b_call, b_callK, b_blt, b_isx, b_errs, b_isk, a_nil, a_cons, r_nil, r_cons, o_nopart, o_part, i_rng1, i_rng2, i_zip, i_enum, i_cap, i_var, i_blt, i_call, i_tup, i_lst, i_idx, i_slc, q_add, q_sub, q_neg, q_lt, q_le, q_gt, q_ge, q_eqI, q_neI, q_isNN, q_isNT, q_isNI, q_isNL, q_isBB, q_isNB, q_isNS, q_isnNN, q_isnNT, q_isnNI, q_isnNL, q_andT, q_andF, q_orT, q_orF, q_not, q_toB, q_part, q_fzI, q_fzB, q_fzS, q_fzN, q_fzT, q_fzL, q_fzW, q_fzSt, q_fzSc, s_nil, s_cons, k_nx, k_rt, k_bk, k_ct, s_asg, s_asgF, s_asgT, k_asg, s_par, s_expr, s_iff, s_retN, s_raise, s_brk, s_cont, s_lams, s_pass, s_frz, k_frzO, k_frzV, s_retV, k_retO, k_retV, s_ret_non, s_ret_bl, s_ret_int, s_ret_str, s_ret_con, s_ret_bin, s_ret_neg, s_ret_cmp, s_ret_chain, s_ret_chain3, s_ret_lrng, s_ret_and, s_ret_or, s_ret_not, s_ret_ite, s_ret_tup, s_ret_lst, s_ret_idx, s_ret_slc, s_ret_call, s_ret_callK, s_ret_op0, s_ret_op1, s_ret_callM, s_ret_blt, s_ret_isx, s_ret_errs, s_ret_isk, s_ret_comp, s_app, k_runR, k_runN, for_nil, k_forN, k_forC, k_forB, k_forR, g_nm, g_tp, o_some, noErr_ret, Yes, retK, ret_bind, err_bind, bad_bind, draw_bind, getV, slOf, slO, setAll, parT, List.length_cons, List.length_nil, List.map_cons, List.map_nil, List.getElem?_cons_zero, List.getElem?_cons_succ, List.set_cons_zero, List.set_cons_succ, List.cons_append, List.nil_append, List.replicate_succ, List.replicate_zero, e2]
  refine yes_draw fun d _ _ => ?_
  by_cases z : d = 0
  · have z2 : decide (d = 0) = true := decide_eq_true z
    simp only [e_non, e_bl, e_int, e_str, e_var, e_con, e_bin, e_neg, e_cmp, e_chain, e_chain3, e_lrng, e_and, e_or, e_not, e_ite, e_tup, e_lst, e_idx, e_slc, e_call, e_callK, e_blt, e_isk, e_caught, e_isx, e_must, e_errs, q_must, e_op0, e_op1, e_callM, b_op1, b_callM, i_callK, i_op1, o_emp, o_revT, b_var, b_cmp, b_chain, b_chain3, b_and, b_or, b_not, b_yes, b_call, b_callK, b_blt, b_isx, b_errs, b_isk, a_nil, a_cons, r_nil, r_cons, o_nopart, o_part, i_rng1, i_rng2, i_zip, i_enum, i_cap, i_var, i_blt, i_call, i_tup, i_lst, i_idx, i_slc, q_add, q_sub, q_neg, q_lt, q_le, q_gt, q_ge, q_eqI, q_neI, q_isNN, q_isNT, q_isNI, q_isNL, q_isBB, q_isNB, q_isNS, q_isnNN, q_isnNT, q_isnNI, q_isnNL, q_andT, q_andF, q_orT, q_orF, q_not, q_toB, q_part, q_fzI, q_fzB, q_fzS, q_fzN, q_fzT, q_fzL, q_fzW, q_fzSt, q_fzSc, s_nil, s_cons, k_nx, k_rt, k_bk, k_ct, s_asg, s_asgF, s_asgT, k_asg, s_par, s_expr, s_iff, s_retN, s_raise, s_brk, s_cont, s_lams, s_pass, s_frz, k_frzO, k_frzV, s_retV, k_retO, k_retV, s_ret_non, s_ret_bl, s_ret_int, s_ret_str, s_ret_con, s_ret_bin, s_ret_neg, s_ret_cmp, s_ret_chain, s_ret_chain3, s_ret_lrng, s_ret_and, s_ret_or, s_ret_not, s_ret_ite, s_ret_tup, s_ret_lst, s_ret_idx, s_ret_slc, s_ret_call, s_ret_callK, s_ret_op0, s_ret_op1, s_ret_callM, s_ret_blt, s_ret_isx, s_ret_errs, s_ret_isk, s_ret_comp, s_app, k_runR, k_runN, for_nil, k_forN, k_forC, k_forB, k_forR, g_nm, g_tp, o_some, noErr_ret, Yes, retK, ret_bind, err_bind, bad_bind, draw_bind, getV, slOf, slO, setAll, parT, List.length_cons, List.length_nil, List.map_cons, List.map_nil, List.getElem?_cons_zero, List.getElem?_cons_succ, List.set_cons_zero, List.set_cons_succ, List.cons_append, List.nil_append, List.replicate_succ, List.replicate_zero, z2, if_true]
    exact yes_ret ⟨_, rfl⟩
  · have z2 : decide (d = 0) = false := decide_eq_false z
    simp only [e_non, e_bl, e_int, e_str, e_var, e_con, e_bin, e_neg, e_cmp, e_chain, e_chain3, e_lrng, e_and, e_or, e_not, e_ite, e_tup, e_lst, e_idx, e_slc, e_call, e_callK, e_blt, e_isk, e_caught, e_isx, e_must, e_errs, q_must, e_op0, e_op1, e_callM, b_op1, b_callM, i_callK, i_op1, o_emp, o_revT, b_var, b_cmp, b_chain, b_chain3, b_and, b_or, b_not, b_yes, b_call, b_callK, b_blt, b_isx, b_errs, b_isk, a_nil, a_cons, r_nil, r_cons, o_nopart, o_part, i_rng1, i_rng2, i_zip, i_enum, i_cap, i_var, i_blt, i_call, i_tup, i_lst, i_idx, i_slc, q_add, q_sub, q_neg, q_lt, q_le, q_gt, q_ge, q_eqI, q_neI, q_isNN, q_isNT, q_isNI, q_isNL, q_isBB, q_isNB, q_isNS, q_isnNN, q_isnNT, q_isnNI, q_isnNL, q_andT, q_andF, q_orT, q_orF, q_not, q_toB, q_part, q_fzI, q_fzB, q_fzS, q_fzN, q_fzT, q_fzL, q_fzW, q_fzSt, q_fzSc, s_nil, s_cons, k_nx, k_rt, k_bk, k_ct, s_asg, s_asgF, s_asgT, k_asg, s_par, s_expr, s_iff, s_retN, s_raise, s_brk, s_cont, s_lams, s_pass, s_frz, k_frzO, k_frzV, s_retV, k_retO, k_retV, s_ret_non, s_ret_bl, s_ret_int, s_ret_str, s_ret_con, s_ret_bin, s_ret_neg, s_ret_cmp, s_ret_chain, s_ret_chain3, s_ret_lrng, s_ret_and, s_ret_or, s_ret_not, s_ret_ite, s_ret_tup, s_ret_lst, s_ret_idx, s_ret_slc, s_ret_call, s_ret_callK, s_ret_op0, s_ret_op1, s_ret_callM, s_ret_blt, s_ret_isx, s_ret_errs, s_ret_isk, s_ret_comp, s_app, k_runR, k_runN, for_nil, k_forN, k_forC, k_forB, k_forR, g_nm, g_tp, o_some, noErr_ret, Yes, retK, ret_bind, err_bind, bad_bind, draw_bind, getV, slOf, slO, setAll, parT, List.length_cons, List.length_nil, List.map_cons, List.map_nil, List.getElem?_cons_zero, List.getElem?_cons_succ, List.set_cons_zero, List.set_cons_succ, List.cons_append, List.nil_append, List.replicate_succ, List.replicate_zero, z2, Bool.false_eq_true, if_false]
    exact yes_ret ⟨_, rfl⟩
theorem s11 {w : Int} (e : ∀ m : Int, 0 < m → m < 2 ^ 200 → k 0 [.sta, .int m] = .draw m fun d => .ret (.int d)) (w0 : 0 < w) (w1 : w < 2 ^ 64) : Yes (fun fl => ∃ i : Int, fl = .rt (.int i)) (ex k WH t11_0 [.val .sta, .val (.int w), .un, .un]) := by
  have e5 := e 5 (by decide) (by decide)
  have e3 := e 3 (by decide) (by decide)
  have e2 := e 2 (by decide) (by decide)
  have ew := e (w + 1) (by omega) (by omega)
  have ez := e (3 * w + 2) (by omega) (by omega)
  have m3 := q_mulL (i := 3) (j := w) (by decide) (by decide)
  unfold t11_0
  simp only [e_non, e_bl, e_int, e_str, e_var, e_con, e_bin, e_neg, e_cmp, e_chain, e_chain3, e_lrng, e_and, e_or, e_not, e_ite, e_tup, e_lst, e_idx, e_slc, e_call, e_callK, e_blt, e_isk, e_caught, e_isx, e_must, e_errs, q_must, e_op0, e_op1, e_callM, b_op1, b_callM, i_callK, i_op1, o_emp, o_revT, b_var, b_cmp, b_chain, b_chain3, b_and, b_or, b_not, b_yes, b_call, b_callK, b_blt, b_isx, b_errs, b_isk, a_nil, a_cons, r_nil, r_cons, o_nopart, o_part, i_rng1, i_rng2, i_zip, i_enum, i_cap, i_var, i_blt, i_call, i_tup, i_lst, i_idx, i_slc, q_add, q_sub, q_neg, q_lt, q_le, q_gt, q_ge, q_eqI, q_neI, q_isNN, q_isNT, q_isNI, q_isNL, q_isBB, q_isNB, q_isNS, q_isnNN, q_isnNT, q_isnNI, q_isnNL, q_andT, q_andF, q_orT, q_orF, q_not, q_toB, q_part, q_fzI, q_fzB, q_fzS, q_fzN, q_fzT, q_fzL, q_fzW, q_fzSt, q_fzSc, s_nil, s_cons, k_nx, k_rt, k_bk, k_ct, s_asg, s_asgF, s_asgT, k_asg, s_par, s_expr, s_iff, s_retN, s_raise, s_brk, s_cont, s_lams, s_pass, s_frz, k_frzO, k_frzV, s_retV, k_retO, k_retV, s_ret_non, s_ret_bl, s_ret_int, s_ret_str, s_ret_con, s_ret_bin, s_ret_neg, s_ret_cmp, s_ret_chain, s_ret_chain3, s_ret_lrng, s_ret_and, s_ret_or, s_ret_not, s_ret_ite, s_ret_tup, s_ret_lst, s_ret_idx, s_ret_slc, s_ret_call, s_ret_callK, s_ret_op0, s_ret_op1, s_ret_callM, s_ret_blt, s_ret_isx, s_ret_errs, s_ret_isk, s_ret_comp, s_app, k_runR, k_runN, for_nil, k_forN, k_forC, k_forB, k_forR, g_nm, g_tp, o_some, noErr_ret, Yes, retK, ret_bind, err_bind, bad_bind, draw_bind, getV, slOf, slO, setAll, parT, List.length_cons, List.length_nil, List.map_cons, List.map_nil, List.getElem?_cons_zero, List.getElem?_cons_succ, List.set_cons_zero, List.set_cons_succ, List.cons_append, List.nil_append, List.replicate_succ, List.replicate_zero, e5]
  refine yes_draw fun d _ _ => ?_
  unfold t11_1
  by_cases z : d = 0
  · have z2 : decide (d = 0) = true := decide_eq_true z
    simp only [e_non, e_bl, e_int, e_str, e_var, e_con, e_bin, e_neg, e_cmp, e_chain, e_chain3, e_lrng, e_and, e_or, e_not, e_ite, e_tup, e_lst, e_idx, e_slc, e_call, e_callK, e_blt, e_isk, e_caught, e_isx, e_must, e_errs, q_must, e_op0, e_op1, e_callM, b_op1, b_callM, i_callK, i_op1, o_emp, o_revT, b_var, b_cmp, b_chain, b_chain3, b_and, b_or, b_not, b_yes, b_call, b_callK, b_blt, b_isx, b_errs, b_isk, a_nil, a_cons, r_nil, r_cons, o_nopart, o_part, i_rng1, i_rng2, i_zip, i_enum, i_cap, i_var, i_blt, i_call, i_tup, i_lst, i_idx, i_slc, q_add, q_sub, q_neg, q_lt, q_le, q_gt, q_ge, q_eqI, q_neI, q_isNN, q_isNT, q_isNI, q_isNL, q_isBB, q_isNB, q_isNS, q_isnNN, q_isnNT, q_isnNI, q_isnNL, q_andT, q_andF, q_orT, q_orF, q_not, q_toB, q_part, q_fzI, q_fzB, q_fzS, q_fzN, q_fzT, q_fzL, q_fzW, q_fzSt, q_fzSc, s_nil, s_cons, k_nx, k_rt, k_bk, k_ct, s_asg, s_asgF, s_asgT, k_asg, s_par, s_expr, s_iff, s_retN, s_raise, s_brk, s_cont, s_lams, s_pass, s_frz, k_frzO, k_frzV, s_retV, k_retO, k_retV, s_ret_non, s_ret_bl, s_ret_int, s_ret_str, s_ret_con, s_ret_bin, s_ret_neg, s_ret_cmp, s_ret_chain, s_ret_chain3, s_ret_lrng, s_ret_and, s_ret_or, s_ret_not, s_ret_ite, s_ret_tup, s_ret_lst, s_ret_idx, s_ret_slc, s_ret_call, s_ret_callK, s_ret_op0, s_ret_op1, s_ret_callM, s_ret_blt, s_ret_isx, s_ret_errs, s_ret_isk, s_ret_comp, s_app, k_runR, k_runN, for_nil, k_forN, k_forC, k_forB, k_forR, g_nm, g_tp, o_some, noErr_ret, Yes, retK, ret_bind, err_bind, bad_bind, draw_bind, getV, slOf, slO, setAll, parT, List.length_cons, List.length_nil, List.map_cons, List.map_nil, List.getElem?_cons_zero, List.getElem?_cons_succ, List.set_cons_zero, List.set_cons_succ, List.cons_append, List.nil_append, List.replicate_succ, List.replicate_zero, z2, if_true, e3]
    exact yes_draw fun x _ _ => s11_2 e2
  · have z2 : decide (d = 0) = false := decide_eq_false z
    by_cases y : d < 3
    · have y2 : decide (d < 3) = true := decide_eq_true y
      simp only [e_non, e_bl, e_int, e_str, e_var, e_con, e_bin, e_neg, e_cmp, e_chain, e_chain3, e_lrng, e_and, e_or, e_not, e_ite, e_tup, e_lst, e_idx, e_slc, e_call, e_callK, e_blt, e_isk, e_caught, e_isx, e_must, e_errs, q_must, e_op0, e_op1, e_callM, b_op1, b_callM, i_callK, i_op1, o_emp, o_revT, b_var, b_cmp, b_chain, b_chain3, b_and, b_or, b_not, b_yes, b_call, b_callK, b_blt, b_isx, b_errs, b_isk, a_nil, a_cons, r_nil, r_cons, o_nopart, o_part, i_rng1, i_rng2, i_zip, i_enum, i_cap, i_var, i_blt, i_call, i_tup, i_lst, i_idx, i_slc, q_add, q_sub, q_neg, q_lt, q_le, q_gt, q_ge, q_eqI, q_neI, q_isNN, q_isNT, q_isNI, q_isNL, q_isBB, q_isNB, q_isNS, q_isnNN, q_isnNT, q_isnNI, q_isnNL, q_andT, q_andF, q_orT, q_orF, q_not, q_toB, q_part, q_fzI, q_fzB, q_fzS, q_fzN, q_fzT, q_fzL, q_fzW, q_fzSt, q_fzSc, s_nil, s_cons, k_nx, k_rt, k_bk, k_ct, s_asg, s_asgF, s_asgT, k_asg, s_par, s_expr, s_iff, s_retN, s_raise, s_brk, s_cont, s_lams, s_pass, s_frz, k_frzO, k_frzV, s_retV, k_retO, k_retV, s_ret_non, s_ret_bl, s_ret_int, s_ret_str, s_ret_con, s_ret_bin, s_ret_neg, s_ret_cmp, s_ret_chain, s_ret_chain3, s_ret_lrng, s_ret_and, s_ret_or, s_ret_not, s_ret_ite, s_ret_tup, s_ret_lst, s_ret_idx, s_ret_slc, s_ret_call, s_ret_callK, s_ret_op0, s_ret_op1, s_ret_callM, s_ret_blt, s_ret_isx, s_ret_errs, s_ret_isk, s_ret_comp, s_app, k_runR, k_runN, for_nil, k_forN, k_forC, k_forB, k_forR, g_nm, g_tp, o_some, noErr_ret, Yes, retK, ret_bind, err_bind, bad_bind, draw_bind, getV, slOf, slO, setAll, parT, List.length_cons, List.length_nil, List.map_cons, List.map_nil, List.getElem?_cons_zero, List.getElem?_cons_succ, List.set_cons_zero, List.set_cons_succ, List.cons_append, List.nil_append, List.replicate_succ, List.replicate_zero, z2, y2, if_true, Bool.false_eq_true, if_false, ew]
      exact yes_draw fun x _ _ => s11_2 e2
    · have y2 : decide (d < 3) = false := decide_eq_false y
      by_cases v : d = 3
      · have v2 : decide (d = 3) = true := decide_eq_true v
        simp only [e_non, e_bl, e_int, e_str, e_var, e_con, e_bin, e_neg, e_cmp, e_chain, e_chain3, e_lrng, e_and, e_or, e_not, e_ite, e_tup, e_lst, e_idx, e_slc, e_call, e_callK, e_blt, e_isk, e_caught, e_isx, e_must, e_errs, q_must, e_op0, e_op1, e_callM, b_op1, b_callM, i_callK, i_op1, o_emp, o_revT, b_var, b_cmp, b_chain, b_chain3, b_and, b_or, b_not, b_yes, b_call, b_callK, b_blt, b_isx, b_errs, b_isk, a_nil, a_cons, r_nil, r_cons, o_nopart, o_part, i_rng1, i_rng2, i_zip, i_enum, i_cap, i_var, i_blt, i_call, i_tup, i_lst, i_idx, i_slc, q_add, q_sub, q_neg, q_lt, q_le, q_gt, q_ge, q_eqI, q_neI, q_isNN, q_isNT, q_isNI, q_isNL, q_isBB, q_isNB, q_isNS, q_isnNN, q_isnNT, q_isnNI, q_isnNL, q_andT, q_andF, q_orT, q_orF, q_not, q_toB, q_part, q_fzI, q_fzB, q_fzS, q_fzN, q_fzT, q_fzL, q_fzW, q_fzSt, q_fzSc, s_nil, s_cons, k_nx, k_rt, k_bk, k_ct, s_asg, s_asgF, s_asgT, k_asg, s_par, s_expr, s_iff, s_retN, s_raise, s_brk, s_cont, s_lams, s_pass, s_frz, k_frzO, k_frzV, s_retV, k_retO, k_retV, s_ret_non, s_ret_bl, s_ret_int, s_ret_str, s_ret_con, s_ret_bin, s_ret_neg, s_ret_cmp, s_ret_chain, s_ret_chain3, s_ret_lrng, s_ret_and, s_ret_or, s_ret_not, s_ret_ite, s_ret_tup, s_ret_lst, s_ret_idx, s_ret_slc, s_ret_call, s_ret_callK, s_ret_op0, s_ret_op1, s_ret_callM, s_ret_blt, s_ret_isx, s_ret_errs, s_ret_isk, s_ret_comp, s_app, k_runR, k_runN, for_nil, k_forN, k_forC, k_forB, k_forR, g_nm, g_tp, o_some, noErr_ret, Yes, retK, ret_bind, err_bind, bad_bind, draw_bind, getV, slOf, slO, setAll, parT, List.length_cons, List.length_nil, List.map_cons, List.map_nil, List.getElem?_cons_zero, List.getElem?_cons_succ, List.set_cons_zero, List.set_cons_succ, List.cons_append, List.nil_append, List.replicate_succ, List.replicate_zero, z2, y2, v2, if_true, Bool.false_eq_true, if_false, e3]
        exact yes_draw fun x _ _ => s11_2 e2
      · have v2 : decide (d = 3) = false := decide_eq_false v
        simp only [e_non, e_bl, e_int, e_str, e_var, e_con, e_bin, e_neg, e_cmp, e_chain, e_chain3, e_lrng, e_and, e_or, e_not, e_ite, e_tup, e_lst, e_idx, e_slc, e_call, e_callK, e_blt, e_isk, e_caught, e_isx, e_must, e_errs, q_must, e_op0, e_op1, e_callM, b_op1, b_callM, i_callK, i_op1, o_emp, o_revT, b_var, b_cmp, b_chain, b_chain3, b_and, b_or, b_not, b_yes, b_call, b_callK, b_blt, b_isx, b_errs, b_isk, a_nil, a_cons, r_nil, r_cons, o_nopart, o_part, i_rng1, i_rng2, i_zip, i_enum, i_cap, i_var, i_blt, i_call, i_tup, i_lst, i_idx, i_slc, q_add, q_sub, q_neg, q_lt, q_le, q_gt, q_ge, q_eqI, q_neI, q_isNN, q_isNT, q_isNI, q_isNL, q_isBB, q_isNB, q_isNS, q_isnNN, q_isnNT, q_isnNI, q_isnNL, q_andT, q_andF, q_orT, q_orF, q_not, q_toB, q_part, q_fzI, q_fzB, q_fzS, q_fzN, q_fzT, q_fzL, q_fzW, q_fzSt, q_fzSc, s_nil, s_cons, k_nx, k_rt, k_bk, k_ct, s_asg, s_asgF, s_asgT, k_asg, s_par, s_expr, s_iff, s_retN, s_raise, s_brk, s_cont, s_lams, s_pass, s_frz, k_frzO, k_frzV, s_retV, k_retO, k_retV, s_ret_non, s_ret_bl, s_ret_int, s_ret_str, s_ret_con, s_ret_bin, s_ret_neg, s_ret_cmp, s_ret_chain, s_ret_chain3, s_ret_lrng, s_ret_and, s_ret_or, s_ret_not, s_ret_ite, s_ret_tup, s_ret_lst, s_ret_idx, s_ret_slc, s_ret_call, s_ret_callK, s_ret_op0, s_ret_op1, s_ret_callM, s_ret_blt, s_ret_isx, s_ret_errs, s_ret_isk, s_ret_comp, s_app, k_runR, k_runN, for_nil, k_forN, k_forC, k_forB, k_forR, g_nm, g_tp, o_some, noErr_ret, Yes, retK, ret_bind, err_bind, bad_bind, draw_bind, getV, slOf, slO, setAll, parT, List.length_cons, List.length_nil, List.map_cons, List.map_nil, List.getElem?_cons_zero, List.getElem?_cons_succ, List.set_cons_zero, List.set_cons_succ, List.cons_append, List.nil_append, List.replicate_succ, List.replicate_zero, z2, y2, v2, Bool.false_eq_true, if_false, m3, ez]
        exact yes_draw fun x _ _ => s11_2 e2
end
theorem f11 {n : Nat} {w : Int} (w0 : 0 < w) (w1 : w < 2 ^ 64) : Yes (fun d => ∃ i : Int, d = .int i) (callF tab WH (n + 3) 11 [.sta, .int w]) := by
  refine Yes.of_eq (u := runD (callF tab WH (n + 2)) WH d11 [.sta, .int w]) rfl ?_
  rw [run_eq rfl, body11, show startE d11.N [.sta, .int w] = [.val .sta, .val (.int w), .un, .un] from rfl]
  refine yes_then (s11 (fun m h1 h2 => dr h1 h2) w0 w1) (fun fl h => ?_)
  obtain ⟨i, rfl⟩ := h
  exact yes_ret ⟨i, rfl⟩
def IntsV (d : D) : Prop := ∃ ks : List Int, ks.length ≤ 1000 ∧ d = .new (ks.map D.int)
theorem ints_of : ∀ {ys : List D}, (∀ y ∈ ys, ∃ i : Int, y = .int i) → ∃ ks : List Int, ys = ks.map D.int
  | [], _ => ⟨[], rfl⟩
  | y :: ys, h => by
    obtain ⟨i, rfl⟩ := h y List.mem_cons_self
    obtain ⟨ks, rfl⟩ := ints_of (ys := ys) fun z hz => h z (List.mem_cons_of_mem _ hz)
    exact ⟨i :: ks, rfl⟩
theorem s12 {k : Nat → List D → T D} {f c m : Int} (m0 : 0 < m + 1) (m1 : m < 1000) (e : k 0 [.sta, .int (m + 1)] = .draw (m + 1) fun d => .ret (.int d)) (e11 : Yes (fun d => ∃ i : Int, d = .int i) (k 11 [.sta, .int (c - f)])) : Yes (fun fl => ∃ d, IntsV d ∧ fl = .rt d) (ex k WH t12_0 [.val .sta, .val (potD f c), .val (.int m), .un]) := by
  unfold t12_0
  have i0 : idxT (potD f c) (.int 0) = .ret (.int f) := rfl
  have i1 : idxT (potD f c) (.int 1) = .ret (.int c) := rfl
  simp only [e_non, e_bl, e_int, e_str, e_var, e_con, e_bin, e_neg, e_cmp, e_chain, e_chain3, e_lrng, e_and, e_or, e_not, e_ite, e_tup, e_lst, e_idx, e_slc, e_call, e_callK, e_blt, e_isk, e_caught, e_isx, e_must, e_errs, q_must, e_op0, e_op1, e_callM, b_op1, b_callM, i_callK, i_op1, o_emp, o_revT, b_var, b_cmp, b_chain, b_chain3, b_and, b_or, b_not, b_yes, b_call, b_callK, b_blt, b_isx, b_errs, b_isk, a_nil, a_cons, r_nil, r_cons, o_nopart, o_part, i_rng1, i_rng2, i_zip, i_enum, i_cap, i_var, i_blt, i_call, i_tup, i_lst, i_idx, i_slc, q_add, q_sub, q_neg, q_lt, q_le, q_gt, q_ge, q_eqI, q_neI, q_isNN, q_isNT, q_isNI, q_isNL, q_isBB, q_isNB, q_isNS, q_isnNN, q_isnNT, q_isnNI, q_isnNL, q_andT, q_andF, q_orT, q_orF, q_not, q_toB, q_part, q_fzI, q_fzB, q_fzS, q_fzN, q_fzT, q_fzL, q_fzW, q_fzSt, q_fzSc, s_nil, s_cons, k_nx, k_rt, k_bk, k_ct, s_asg, s_asgF, s_asgT, k_asg, s_par, s_expr, s_iff, s_retN, s_raise, s_brk, s_cont, s_lams, s_pass, s_frz, k_frzO, k_frzV, s_retV, k_retO, k_retV, s_ret_non, s_ret_bl, s_ret_int, s_ret_str, s_ret_con, s_ret_bin, s_ret_neg, s_ret_cmp, s_ret_chain, s_ret_chain3, s_ret_lrng, s_ret_and, s_ret_or, s_ret_not, s_ret_ite, s_ret_tup, s_ret_lst, s_ret_idx, s_ret_slc, s_ret_call, s_ret_callK, s_ret_op0, s_ret_op1, s_ret_callM, s_ret_blt, s_ret_isx, s_ret_errs, s_ret_isk, s_ret_comp, s_app, k_runR, k_runN, for_nil, k_forN, k_forC, k_forB, k_forR, g_nm, g_tp, o_some, noErr_ret, Yes, retK, ret_bind, err_bind, bad_bind, draw_bind, getV, slOf, slO, setAll, parT, List.length_cons, List.length_nil, List.map_cons, List.map_nil, List.getElem?_cons_zero, List.getElem?_cons_succ, List.set_cons_zero, List.set_cons_succ, List.cons_append, List.nil_append, List.replicate_succ, List.replicate_zero, e_comp, e, bind_assoc']
  refine yes_draw fun t t0 t1 => ?_
  obtain ⟨l, hl, ll⟩ := rng1_T (hi := t) (by omega) (by omega)
  rw [hl, ret_bind]
  have cl := compL_all (f := compF (.nm 3) [3] (evs k .yes).B (evs k (.call 11 (.cons (.var 0) (.cons (.bin .sub (.idx (.var 1) (.int 1)) (.idx (.var 1) (.int 0))) .nil)))).E [.val .sta, .val (potD f c), .val (.int m), .un]) (g := D.int) (P := fun y => ∃ i : Int, y = .int i) (E := fun _ => False) l (fun x _ => by
    refine Yes.all ?_
    simp only [compF_eq, wipeE, e_non, e_bl, e_int, e_str, e_var, e_con, e_bin, e_neg, e_cmp, e_chain, e_chain3, e_lrng, e_and, e_or, e_not, e_ite, e_tup, e_lst, e_idx, e_slc, e_call, e_callK, e_blt, e_isk, e_caught, e_isx, e_must, e_errs, q_must, e_op0, e_op1, e_callM, b_op1, b_callM, i_callK, i_op1, o_emp, o_revT, b_var, b_cmp, b_chain, b_chain3, b_and, b_or, b_not, b_yes, b_call, b_callK, b_blt, b_isx, b_errs, b_isk, a_nil, a_cons, r_nil, r_cons, o_nopart, o_part, i_rng1, i_rng2, i_zip, i_enum, i_cap, i_var, i_blt, i_call, i_tup, i_lst, i_idx, i_slc, q_add, q_sub, q_neg, q_lt, q_le, q_gt, q_ge, q_eqI, q_neI, q_isNN, q_isNT, q_isNI, q_isNL, q_isBB, q_isNB, q_isNS, q_isnNN, q_isnNT, q_isnNI, q_isnNL, q_andT, q_andF, q_orT, q_orF, q_not, q_toB, q_part, q_fzI, q_fzB, q_fzS, q_fzN, q_fzT, q_fzL, q_fzW, q_fzSt, q_fzSc, s_nil, s_cons, k_nx, k_rt, k_bk, k_ct, s_asg, s_asgF, s_asgT, k_asg, s_par, s_expr, s_iff, s_retN, s_raise, s_brk, s_cont, s_lams, s_pass, s_frz, k_frzO, k_frzV, s_retV, k_retO, k_retV, s_ret_non, s_ret_bl, s_ret_int, s_ret_str, s_ret_con, s_ret_bin, s_ret_neg, s_ret_cmp, s_ret_chain, s_ret_chain3, s_ret_lrng, s_ret_and, s_ret_or, s_ret_not, s_ret_ite, s_ret_tup, s_ret_lst, s_ret_idx, s_ret_slc, s_ret_call, s_ret_callK, s_ret_op0, s_ret_op1, s_ret_callM, s_ret_blt, s_ret_isx, s_ret_errs, s_ret_isk, s_ret_comp, s_app, k_runR, k_runN, for_nil, k_forN, k_forC, k_forB, k_forR, g_nm, g_tp, o_some, noErr_ret, Yes, retK, ret_bind, err_bind, bad_bind, draw_bind, getV, slOf, slO, setAll, parT, List.length_cons, List.length_nil, List.map_cons, List.map_nil, List.getElem?_cons_zero, List.getElem?_cons_succ, List.set_cons_zero, List.set_cons_succ, List.cons_append, List.nil_append, List.replicate_succ, List.replicate_zero, i0, i1, if_true, bind_assoc']
    refine yes_then e11 fun y hy => ?_
    obtain ⟨i, rfl⟩ := hy
    exact yes_ret ⟨_, rfl, i, rfl⟩)
  have cy : Yes (fun ys => ys.length = l.length ∧ ∀ y ∈ ys, ∃ i : Int, y = .int i) (noErr (compL (compF (.nm 3) [3] (evs k .yes).B (evs k (.call 11 (.cons (.var 0) (.cons (.bin .sub (.idx (.var 1) (.int 1)) (.idx (.var 1) (.int 0))) .nil)))).E [.val .sta, .val (potD f c), .val (.int m), .un]) (l.map D.int))) := ⟨noErr_all0 cl⟩
  refine yes_then cy fun ys hy => ?_
  obtain ⟨ks, rfl⟩ := ints_of hy.2
  have hk : ks.length ≤ 1000 := by
    have := hy.1
    rw [List.length_map] at this
    omega
  exact yes_ret ⟨_, ⟨ks, hk, rfl⟩, rfl⟩
theorem f12 {n : Nat} {f c : Int} (h : Pot f c) : Yes IntsV (callF tab WH (n + 4) 12 [.sta, potD f c, .int 30]) := by
  refine Yes.of_eq (u := runD (callF tab WH (n + 3)) WH d12 [.sta, potD f c, .int 30]) rfl ?_
  rw [run_eq rfl, body12, show startE d12.N [.sta, potD f c, .int 30] = [.val .sta, .val (potD f c), .val (.int 30), .un] from rfl]
  obtain ⟨h1, h2, h3⟩ := h
  refine yes_then (s12 (by decide) (by decide) (dr (by decide) (by decide)) (f11 (n := n) (by omega) (by omega))) (fun fl h => ?_)
  obtain ⟨d, hd, rfl⟩ := h
  exact yes_ret hd
/-! what is left -/
def t17_2 : S := .cons (.ret (.lst (.cons (.var 1) (.cons (.bin .add (.var 1) (.int 1)) (.cons (.bin .fdiv (.bin .add (.var 1) (.var 2)) (.int 2)) (.cons (.bin .sub (.var 2) (.int 1)) (.cons (.var 2) .nil))))))) .nil
def t17_1 : S := .cons (.iff (.cmp .le (.bin .sub (.var 2) (.var 1)) (.int 12)) (.cons (.ret (.lrng (.var 1) (.bin .add (.var 2) (.int 1)))) .nil) .nil) t17_2
def t17_0 : S := .cons (.asgT [1, 2] (.var 0)) t17_1
theorem body17 : d17.body = t17_0 := rfl
theorem f17 {n : Nat} {f c : Int} (h : Pot f c) : ∃ xs : List Int, (∀ x ∈ xs, f ≤ x ∧ x ≤ c) ∧ callF tab WH (n + 1) 17 [potD f c] = .ret (.new (xs.map D.int)) := by
  obtain ⟨h1, h2, h3⟩ := h
  by_cases z : c - f ≤ 12
  · refine ⟨(List.range (c + 1 - f).toNat).map fun k => f + ((k : Nat) : Int), fun x hx => ?_, ?_⟩
    · obtain ⟨k, hk, rfl⟩ := List.mem_map.mp hx
      rw [List.mem_range] at hk
      omega
    · show runD (callF tab WH n) WH d17 _ = _
      rw [run_eq rfl, body17, show startE d17.N [potD f c] = [.val (potD f c), .un, .un] from rfl]
      have z2 : decide (c - f ≤ 12) = true := decide_eq_true z
      have hr : rng2T (.int f) (.int (c + 1)) = .ret (((List.range (c + 1 - f).toNat).map fun k => f + ((k : Nat) : Int)).map D.int) := by
        show rngI f (c + 1) = _
        rw [rng_ok ⟨by omega, by omega, by omega, by omega, by show _ ≤ 16777216; omega⟩, List.map_map]
        rfl
      generalize ((List.range (c + 1 - f).toNat).map fun k => f + ((k : Nat) : Int)).map D.int = L at *
      unfold t17_0 potD
      simp only [e_non, e_bl, e_int, e_str, e_var, e_con, e_bin, e_neg, e_cmp, e_chain, e_chain3, e_lrng, e_and, e_or, e_not, e_ite, e_tup, e_lst, e_idx, e_slc, e_call, e_callK, e_blt, e_isk, e_caught, e_isx, e_must, e_errs, q_must, e_op0, e_op1, e_callM, b_op1, b_callM, i_callK, i_op1, o_emp, o_revT, b_var, b_cmp, b_chain, b_chain3, b_and, b_or, b_not, b_yes, b_call, b_callK, b_blt, b_isx, b_errs, b_isk, a_nil, a_cons, r_nil, r_cons, o_nopart, o_part, i_rng1, i_rng2, i_zip, i_enum, i_cap, i_var, i_blt, i_call, i_tup, i_lst, i_idx, i_slc, q_add, q_sub, q_neg, q_lt, q_le, q_gt, q_ge, q_eqI, q_neI, q_isNN, q_isNT, q_isNI, q_isNL, q_isBB, q_isNB, q_isNS, q_isnNN, q_isnNT, q_isnNI, q_isnNL, q_andT, q_andF, q_orT, q_orF, q_not, q_toB, q_part, q_fzI, q_fzB, q_fzS, q_fzN, q_fzT, q_fzL, q_fzW, q_fzSt, q_fzSc, s_nil, s_cons, k_nx, k_rt, k_bk, k_ct, s_asg, s_asgF, s_asgT, k_asg, s_par, s_expr, s_iff, s_retN, s_raise, s_brk, s_cont, s_lams, s_pass, s_frz, k_frzO, k_frzV, s_retV, k_retO, k_retV, s_ret_non, s_ret_bl, s_ret_int, s_ret_str, s_ret_con, s_ret_bin, s_ret_neg, s_ret_cmp, s_ret_chain, s_ret_chain3, s_ret_lrng, s_ret_and, s_ret_or, s_ret_not, s_ret_ite, s_ret_tup, s_ret_lst, s_ret_idx, s_ret_slc, s_ret_call, s_ret_callK, s_ret_op0, s_ret_op1, s_ret_callM, s_ret_blt, s_ret_isx, s_ret_errs, s_ret_isk, s_ret_comp, s_app, k_runR, k_runN, for_nil, k_forN, k_forC, k_forB, k_forR, g_nm, g_tp, o_some, noErr_ret, Yes, retK, ret_bind, err_bind, bad_bind, draw_bind, getV, slOf, slO, setAll, parT, List.length_cons, List.length_nil, List.map_cons, List.map_nil, List.getElem?_cons_zero, List.getElem?_cons_succ, List.set_cons_zero, List.set_cons_succ, List.cons_append, List.nil_append, List.replicate_succ, List.replicate_zero]
      unfold t17_1
      simp only [e_non, e_bl, e_int, e_str, e_var, e_con, e_bin, e_neg, e_cmp, e_chain, e_chain3, e_lrng, e_and, e_or, e_not, e_ite, e_tup, e_lst, e_idx, e_slc, e_call, e_callK, e_blt, e_isk, e_caught, e_isx, e_must, e_errs, q_must, e_op0, e_op1, e_callM, b_op1, b_callM, i_callK, i_op1, o_emp, o_revT, b_var, b_cmp, b_chain, b_chain3, b_and, b_or, b_not, b_yes, b_call, b_callK, b_blt, b_isx, b_errs, b_isk, a_nil, a_cons, r_nil, r_cons, o_nopart, o_part, i_rng1, i_rng2, i_zip, i_enum, i_cap, i_var, i_blt, i_call, i_tup, i_lst, i_idx, i_slc, q_add, q_sub, q_neg, q_lt, q_le, q_gt, q_ge, q_eqI, q_neI, q_isNN, q_isNT, q_isNI, q_isNL, q_isBB, q_isNB, q_isNS, q_isnNN, q_isnNT, q_isnNI, q_isnNL, q_andT, q_andF, q_orT, q_orF, q_not, q_toB, q_part, q_fzI, q_fzB, q_fzS, q_fzN, q_fzT, q_fzL, q_fzW, q_fzSt, q_fzSc, s_nil, s_cons, k_nx, k_rt, k_bk, k_ct, s_asg, s_asgF, s_asgT, k_asg, s_par, s_expr, s_iff, s_retN, s_raise, s_brk, s_cont, s_lams, s_pass, s_frz, k_frzO, k_frzV, s_retV, k_retO, k_retV, s_ret_non, s_ret_bl, s_ret_int, s_ret_str, s_ret_con, s_ret_bin, s_ret_neg, s_ret_cmp, s_ret_chain, s_ret_chain3, s_ret_lrng, s_ret_and, s_ret_or, s_ret_not, s_ret_ite, s_ret_tup, s_ret_lst, s_ret_idx, s_ret_slc, s_ret_call, s_ret_callK, s_ret_op0, s_ret_op1, s_ret_callM, s_ret_blt, s_ret_isx, s_ret_errs, s_ret_isk, s_ret_comp, s_app, k_runR, k_runN, for_nil, k_forN, k_forC, k_forB, k_forR, g_nm, g_tp, o_some, noErr_ret, Yes, retK, ret_bind, err_bind, bad_bind, draw_bind, getV, slOf, slO, setAll, parT, List.length_cons, List.length_nil, List.map_cons, List.map_nil, List.getElem?_cons_zero, List.getElem?_cons_succ, List.set_cons_zero, List.set_cons_succ, List.cons_append, List.nil_append, List.replicate_succ, List.replicate_zero, z2, if_true, hr]
  · refine ⟨[f, f + 1, (f + c) / 2, c - 1, c], fun x hx => ?_, ?_⟩
    · simp only [List.mem_cons, List.not_mem_nil, or_false] at hx
      rcases hx with rfl | rfl | rfl | rfl | rfl <;> omega
    · show runD (callF tab WH n) WH d17 _ = _
      rw [run_eq rfl, body17, show startE d17.N [potD f c] = [.val (potD f c), .un, .un] from rfl]
      have z2 : decide (c - f ≤ 12) = false := decide_eq_false z
      have q2 := q_fdiv (i := f + c) (j := 2) (by decide) (by decide)
      have l5 : ∀ a b c d e : D, lenT [a, b, c, d, e] (.new [a, b, c, d, e]) = .ret (.new [a, b, c, d, e]) := fun _ _ _ _ _ => rfl
      unfold t17_0 potD
      simp only [e_non, e_bl, e_int, e_str, e_var, e_con, e_bin, e_neg, e_cmp, e_chain, e_chain3, e_lrng, e_and, e_or, e_not, e_ite, e_tup, e_lst, e_idx, e_slc, e_call, e_callK, e_blt, e_isk, e_caught, e_isx, e_must, e_errs, q_must, e_op0, e_op1, e_callM, b_op1, b_callM, i_callK, i_op1, o_emp, o_revT, b_var, b_cmp, b_chain, b_chain3, b_and, b_or, b_not, b_yes, b_call, b_callK, b_blt, b_isx, b_errs, b_isk, a_nil, a_cons, r_nil, r_cons, o_nopart, o_part, i_rng1, i_rng2, i_zip, i_enum, i_cap, i_var, i_blt, i_call, i_tup, i_lst, i_idx, i_slc, q_add, q_sub, q_neg, q_lt, q_le, q_gt, q_ge, q_eqI, q_neI, q_isNN, q_isNT, q_isNI, q_isNL, q_isBB, q_isNB, q_isNS, q_isnNN, q_isnNT, q_isnNI, q_isnNL, q_andT, q_andF, q_orT, q_orF, q_not, q_toB, q_part, q_fzI, q_fzB, q_fzS, q_fzN, q_fzT, q_fzL, q_fzW, q_fzSt, q_fzSc, s_nil, s_cons, k_nx, k_rt, k_bk, k_ct, s_asg, s_asgF, s_asgT, k_asg, s_par, s_expr, s_iff, s_retN, s_raise, s_brk, s_cont, s_lams, s_pass, s_frz, k_frzO, k_frzV, s_retV, k_retO, k_retV, s_ret_non, s_ret_bl, s_ret_int, s_ret_str, s_ret_con, s_ret_bin, s_ret_neg, s_ret_cmp, s_ret_chain, s_ret_chain3, s_ret_lrng, s_ret_and, s_ret_or, s_ret_not, s_ret_ite, s_ret_tup, s_ret_lst, s_ret_idx, s_ret_slc, s_ret_call, s_ret_callK, s_ret_op0, s_ret_op1, s_ret_callM, s_ret_blt, s_ret_isx, s_ret_errs, s_ret_isk, s_ret_comp, s_app, k_runR, k_runN, for_nil, k_forN, k_forC, k_forB, k_forR, g_nm, g_tp, o_some, noErr_ret, Yes, retK, ret_bind, err_bind, bad_bind, draw_bind, getV, slOf, slO, setAll, parT, List.length_cons, List.length_nil, List.map_cons, List.map_nil, List.getElem?_cons_zero, List.getElem?_cons_succ, List.set_cons_zero, List.set_cons_succ, List.cons_append, List.nil_append, List.replicate_succ, List.replicate_zero]
      unfold t17_1
      simp only [e_non, e_bl, e_int, e_str, e_var, e_con, e_bin, e_neg, e_cmp, e_chain, e_chain3, e_lrng, e_and, e_or, e_not, e_ite, e_tup, e_lst, e_idx, e_slc, e_call, e_callK, e_blt, e_isk, e_caught, e_isx, e_must, e_errs, q_must, e_op0, e_op1, e_callM, b_op1, b_callM, i_callK, i_op1, o_emp, o_revT, b_var, b_cmp, b_chain, b_chain3, b_and, b_or, b_not, b_yes, b_call, b_callK, b_blt, b_isx, b_errs, b_isk, a_nil, a_cons, r_nil, r_cons, o_nopart, o_part, i_rng1, i_rng2, i_zip, i_enum, i_cap, i_var, i_blt, i_call, i_tup, i_lst, i_idx, i_slc, q_add, q_sub, q_neg, q_lt, q_le, q_gt, q_ge, q_eqI, q_neI, q_isNN, q_isNT, q_isNI, q_isNL, q_isBB, q_isNB, q_isNS, q_isnNN, q_isnNT, q_isnNI, q_isnNL, q_andT, q_andF, q_orT, q_orF, q_not, q_toB, q_part, q_fzI, q_fzB, q_fzS, q_fzN, q_fzT, q_fzL, q_fzW, q_fzSt, q_fzSc, s_nil, s_cons, k_nx, k_rt, k_bk, k_ct, s_asg, s_asgF, s_asgT, k_asg, s_par, s_expr, s_iff, s_retN, s_raise, s_brk, s_cont, s_lams, s_pass, s_frz, k_frzO, k_frzV, s_retV, k_retO, k_retV, s_ret_non, s_ret_bl, s_ret_int, s_ret_str, s_ret_con, s_ret_bin, s_ret_neg, s_ret_cmp, s_ret_chain, s_ret_chain3, s_ret_lrng, s_ret_and, s_ret_or, s_ret_not, s_ret_ite, s_ret_tup, s_ret_lst, s_ret_idx, s_ret_slc, s_ret_call, s_ret_callK, s_ret_op0, s_ret_op1, s_ret_callM, s_ret_blt, s_ret_isx, s_ret_errs, s_ret_isk, s_ret_comp, s_app, k_runR, k_runN, for_nil, k_forN, k_forC, k_forB, k_forR, g_nm, g_tp, o_some, noErr_ret, Yes, retK, ret_bind, err_bind, bad_bind, draw_bind, getV, slOf, slO, setAll, parT, List.length_cons, List.length_nil, List.map_cons, List.map_nil, List.getElem?_cons_zero, List.getElem?_cons_succ, List.set_cons_zero, List.set_cons_succ, List.cons_append, List.nil_append, List.replicate_succ, List.replicate_zero, z2, Bool.false_eq_true, if_false]
      unfold t17_2
      simp only [e_non, e_bl, e_int, e_str, e_var, e_con, e_bin, e_neg, e_cmp, e_chain, e_chain3, e_lrng, e_and, e_or, e_not, e_ite, e_tup, e_lst, e_idx, e_slc, e_call, e_callK, e_blt, e_isk, e_caught, e_isx, e_must, e_errs, q_must, e_op0, e_op1, e_callM, b_op1, b_callM, i_callK, i_op1, o_emp, o_revT, b_var, b_cmp, b_chain, b_chain3, b_and, b_or, b_not, b_yes, b_call, b_callK, b_blt, b_isx, b_errs, b_isk, a_nil, a_cons, r_nil, r_cons, o_nopart, o_part, i_rng1, i_rng2, i_zip, i_enum, i_cap, i_var, i_blt, i_call, i_tup, i_lst, i_idx, i_slc, q_add, q_sub, q_neg, q_lt, q_le, q_gt, q_ge, q_eqI, q_neI, q_isNN, q_isNT, q_isNI, q_isNL, q_isBB, q_isNB, q_isNS, q_isnNN, q_isnNT, q_isnNI, q_isnNL, q_andT, q_andF, q_orT, q_orF, q_not, q_toB, q_part, q_fzI, q_fzB, q_fzS, q_fzN, q_fzT, q_fzL, q_fzW, q_fzSt, q_fzSc, s_nil, s_cons, k_nx, k_rt, k_bk, k_ct, s_asg, s_asgF, s_asgT, k_asg, s_par, s_expr, s_iff, s_retN, s_raise, s_brk, s_cont, s_lams, s_pass, s_frz, k_frzO, k_frzV, s_retV, k_retO, k_retV, s_ret_non, s_ret_bl, s_ret_int, s_ret_str, s_ret_con, s_ret_bin, s_ret_neg, s_ret_cmp, s_ret_chain, s_ret_chain3, s_ret_lrng, s_ret_and, s_ret_or, s_ret_not, s_ret_ite, s_ret_tup, s_ret_lst, s_ret_idx, s_ret_slc, s_ret_call, s_ret_callK, s_ret_op0, s_ret_op1, s_ret_callM, s_ret_blt, s_ret_isx, s_ret_errs, s_ret_isk, s_ret_comp, s_app, k_runR, k_runN, for_nil, k_forN, k_forC, k_forB, k_forR, g_nm, g_tp, o_some, noErr_ret, Yes, retK, ret_bind, err_bind, bad_bind, draw_bind, getV, slOf, slO, setAll, parT, List.length_cons, List.length_nil, List.map_cons, List.map_nil, List.getElem?_cons_zero, List.getElem?_cons_succ, List.set_cons_zero, List.set_cons_succ, List.cons_append, List.nil_append, List.replicate_succ, List.replicate_zero, q2, l5]
/-! drawn stretches -/
def t19_5 : S := .cons (.ret (.tup (.cons (.var 4) (.cons (.var 2) (.cons (.var 3) (.cons (.call 0 (.cons (.var 0) (.cons (.call 9 (.cons (.var 0) (.cons (.lst (.cons (.int 9) (.cons (.bin .pow (.int 10) (.int 30)) .nil))) .nil))) .nil))) (.cons (.call 0 (.cons (.var 0) (.cons (.call 9 (.cons (.var 0) (.cons (.lst (.cons (.int 9) (.cons (.bin .pow (.int 10) (.int 30)) .nil))) .nil))) .nil))) .nil))))))) .nil
def t19_4 : S := .cons (.iff (.cmp .lt (.var 2) (.var 3)) (.cons (.ret (.tup (.cons (.var 4) (.cons (.var 2) (.cons (.var 3) (.cons (.int 0) (.cons (.int 0) .nil))))))) .nil) .nil) t19_5
def t19_3 : S := .cons (.asgF 4 (.call 9 (.cons (.var 0) (.cons (.lst (.cons (.var 5) (.cons (.bin .add (.bin .sub (.var 6) (.var 3)) (.var 2)) (.cons (.bin .add (.var 5) (.call 0 (.cons (.var 0) (.cons (.bin .add (.bin .sub (.bin .add (.bin .sub (.var 6) (.var 3)) (.var 2)) (.var 5)) (.int 1)) .nil)))) .nil)))) .nil)))) t19_4
def t19_2 : S := .cons (.asgF 3 (.call 9 (.cons (.var 0) (.cons (.lst (.cons (.var 2) (.cons (.var 6) (.cons (.bin .add (.var 2) (.call 0 (.cons (.var 0) (.cons (.bin .add (.bin .sub (.var 6) (.var 2)) (.int 1)) .nil)))) .nil)))) .nil)))) t19_3
def t19_1 : S := .cons (.asgF 2 (.bin .add (.var 5) (.call 0 (.cons (.var 0) (.cons (.bin .add (.bin .sub (.var 6) (.var 5)) (.int 1)) .nil))))) t19_2
def t19_0 : S := .cons (.asgT [5, 6] (.var 1)) t19_1
theorem body19 : d19.body = t19_0 := rfl
theorem lt3 {a b c : D} : lenT [a, b, c] (.new [a, b, c]) = .ret (.new [a, b, c]) := rfl
theorem lt2 {a b : D} : lenT [a, b] (.new [a, b]) = .ret (.new [a, b]) := rfl
section
variable {k : Nat → List D → T D} {f c : Int}
def Dr (k : Nat → List D → T D) : Prop := ∀ m : Int, 0 < m → m < 2 ^ 200 → k 0 [.sta, .int m] = .draw m fun d => .ret (.int d)
def Pk (k : Nat → List D → T D) : Prop := ∀ xs : List D, 0 < xs.length → xs.length < 1000 → (∀ d ∈ xs, kd d = true) → Yes (fun d => d ∈ xs) (k 9 [.sta, .lst xs])
theorem pick3 (e9 : Pk k) {a b d : Int} : Yes (fun v => ∃ i : Int, v = .int i ∧ (i = a ∨ i = b ∨ i = d)) (k 9 [.sta, .lst [.int a, .int b, .int d]]) := by
  refine ⟨All0.mono (e9 [.int a, .int b, .int d] (by show 0 < 3; decide) (by show 3 < 1000; decide) (fun z hz => by
    simp only [List.mem_cons, List.not_mem_nil, or_false] at hz
    rcases hz with rfl | rfl | rfl <;> rfl)).all (fun v hv => ?_) fun _ e => e⟩
  simp only [List.mem_cons, List.not_mem_nil, or_false] at hv
  rcases hv with rfl | rfl | rfl
  · exact ⟨_, rfl, .inl rfl⟩
  · exact ⟨_, rfl, .inr (.inl rfl)⟩
  · exact ⟨_, rfl, .inr (.inr rfl)⟩
theorem pickM (e9 : Pk k) {a b : Int} : Yes (fun v => ∃ i : Int, v = .int i ∧ (i = a ∨ i = b)) (k 9 [.sta, .lst [.int a, .int b]]) := by
  refine ⟨All0.mono (e9 [.int a, .int b] (by show 0 < 2; decide) (by show 2 < 1000; decide) (fun z hz => by
    simp only [List.mem_cons, List.not_mem_nil, or_false] at hz
    rcases hz with rfl | rfl <;> rfl)).all (fun v hv => ?_) fun _ e => e⟩
  simp only [List.mem_cons, List.not_mem_nil, or_false] at hv
  rcases hv with rfl | rfl
  · exact ⟨_, rfl, .inl rfl⟩
  · exact ⟨_, rfl, .inr rfl⟩
def StV (f c : Int) (d : D) : Prop := ∃ s, d = stD s ∧ Ok f c s
theorem s19_5 {e a b : Int} (e0 : Dr k) (e9 : Pk k) (ab : a = b) (h1 : f ≤ a) (h2 : b ≤ c) (h3 : f ≤ e) (h4 : e + b - a ≤ c) : Yes (fun fl => ∃ d, StV f c d ∧ fl = .rt d) (ex k WH t19_5 [.val .sta, .val (potD f c), .val (.int a), .val (.int b), .val (.int e), .val (.int f), .val (.int c)]) := by
  unfold t19_5
  simp only [e_non, e_bl, e_int, e_str, e_var, e_con, e_bin, e_neg, e_cmp, e_chain, e_chain3, e_lrng, e_and, e_or, e_not, e_ite, e_tup, e_lst, e_idx, e_slc, e_call, e_callK, e_blt, e_isk, e_caught, e_isx, e_must, e_errs, q_must, e_op0, e_op1, e_callM, b_op1, b_callM, i_callK, i_op1, o_emp, o_revT, b_var, b_cmp, b_chain, b_chain3, b_and, b_or, b_not, b_yes, b_call, b_callK, b_blt, b_isx, b_errs, b_isk, a_nil, a_cons, r_nil, r_cons, o_nopart, o_part, i_rng1, i_rng2, i_zip, i_enum, i_cap, i_var, i_blt, i_call, i_tup, i_lst, i_idx, i_slc, q_add, q_sub, q_neg, q_lt, q_le, q_gt, q_ge, q_eqI, q_neI, q_isNN, q_isNT, q_isNI, q_isNL, q_isBB, q_isNB, q_isNS, q_isnNN, q_isnNT, q_isnNI, q_isnNL, q_andT, q_andF, q_orT, q_orF, q_not, q_toB, q_part, q_fzI, q_fzB, q_fzS, q_fzN, q_fzT, q_fzL, q_fzW, q_fzSt, q_fzSc, s_nil, s_cons, k_nx, k_rt, k_bk, k_ct, s_asg, s_asgF, s_asgT, k_asg, s_par, s_expr, s_iff, s_retN, s_raise, s_brk, s_cont, s_lams, s_pass, s_frz, k_frzO, k_frzV, s_retV, k_retO, k_retV, s_ret_non, s_ret_bl, s_ret_int, s_ret_str, s_ret_con, s_ret_bin, s_ret_neg, s_ret_cmp, s_ret_chain, s_ret_chain3, s_ret_lrng, s_ret_and, s_ret_or, s_ret_not, s_ret_ite, s_ret_tup, s_ret_lst, s_ret_idx, s_ret_slc, s_ret_call, s_ret_callK, s_ret_op0, s_ret_op1, s_ret_callM, s_ret_blt, s_ret_isx, s_ret_errs, s_ret_isk, s_ret_comp, s_app, k_runR, k_runN, for_nil, k_forN, k_forC, k_forB, k_forR, g_nm, g_tp, o_some, noErr_ret, Yes, retK, ret_bind, err_bind, bad_bind, draw_bind, getV, slOf, slO, setAll, parT, List.length_cons, List.length_nil, List.map_cons, List.map_nil, List.getElem?_cons_zero, List.getElem?_cons_succ, List.set_cons_zero, List.set_cons_succ, List.cons_append, List.nil_append, List.replicate_succ, List.replicate_zero, pw30, lt2, bind_assoc']
  refine yes_then (pickM e9) fun v hv => ?_
  obtain ⟨i, rfl, hi⟩ := hv
  have ei := e0 i (by omega) (by omega)
  simp only [e_non, e_bl, e_int, e_str, e_var, e_con, e_bin, e_neg, e_cmp, e_chain, e_chain3, e_lrng, e_and, e_or, e_not, e_ite, e_tup, e_lst, e_idx, e_slc, e_call, e_callK, e_blt, e_isk, e_caught, e_isx, e_must, e_errs, q_must, e_op0, e_op1, e_callM, b_op1, b_callM, i_callK, i_op1, o_emp, o_revT, b_var, b_cmp, b_chain, b_chain3, b_and, b_or, b_not, b_yes, b_call, b_callK, b_blt, b_isx, b_errs, b_isk, a_nil, a_cons, r_nil, r_cons, o_nopart, o_part, i_rng1, i_rng2, i_zip, i_enum, i_cap, i_var, i_blt, i_call, i_tup, i_lst, i_idx, i_slc, q_add, q_sub, q_neg, q_lt, q_le, q_gt, q_ge, q_eqI, q_neI, q_isNN, q_isNT, q_isNI, q_isNL, q_isBB, q_isNB, q_isNS, q_isnNN, q_isnNT, q_isnNI, q_isnNL, q_andT, q_andF, q_orT, q_orF, q_not, q_toB, q_part, q_fzI, q_fzB, q_fzS, q_fzN, q_fzT, q_fzL, q_fzW, q_fzSt, q_fzSc, s_nil, s_cons, k_nx, k_rt, k_bk, k_ct, s_asg, s_asgF, s_asgT, k_asg, s_par, s_expr, s_iff, s_retN, s_raise, s_brk, s_cont, s_lams, s_pass, s_frz, k_frzO, k_frzV, s_retV, k_retO, k_retV, s_ret_non, s_ret_bl, s_ret_int, s_ret_str, s_ret_con, s_ret_bin, s_ret_neg, s_ret_cmp, s_ret_chain, s_ret_chain3, s_ret_lrng, s_ret_and, s_ret_or, s_ret_not, s_ret_ite, s_ret_tup, s_ret_lst, s_ret_idx, s_ret_slc, s_ret_call, s_ret_callK, s_ret_op0, s_ret_op1, s_ret_callM, s_ret_blt, s_ret_isx, s_ret_errs, s_ret_isk, s_ret_comp, s_app, k_runR, k_runN, for_nil, k_forN, k_forC, k_forB, k_forR, g_nm, g_tp, o_some, noErr_ret, Yes, retK, ret_bind, err_bind, bad_bind, draw_bind, getV, slOf, slO, setAll, parT, List.length_cons, List.length_nil, List.map_cons, List.map_nil, List.getElem?_cons_zero, List.getElem?_cons_succ, List.set_cons_zero, List.set_cons_succ, List.cons_append, List.nil_append, List.replicate_succ, List.replicate_zero, ei, bind_assoc']
  refine yes_draw fun x x0 x1 => ?_
  refine yes_then (pickM e9) fun v hv => ?_
  obtain ⟨j, rfl, hj⟩ := hv
  have ej := e0 j (by omega) (by omega)
  simp only [e_non, e_bl, e_int, e_str, e_var, e_con, e_bin, e_neg, e_cmp, e_chain, e_chain3, e_lrng, e_and, e_or, e_not, e_ite, e_tup, e_lst, e_idx, e_slc, e_call, e_callK, e_blt, e_isk, e_caught, e_isx, e_must, e_errs, q_must, e_op0, e_op1, e_callM, b_op1, b_callM, i_callK, i_op1, o_emp, o_revT, b_var, b_cmp, b_chain, b_chain3, b_and, b_or, b_not, b_yes, b_call, b_callK, b_blt, b_isx, b_errs, b_isk, a_nil, a_cons, r_nil, r_cons, o_nopart, o_part, i_rng1, i_rng2, i_zip, i_enum, i_cap, i_var, i_blt, i_call, i_tup, i_lst, i_idx, i_slc, q_add, q_sub, q_neg, q_lt, q_le, q_gt, q_ge, q_eqI, q_neI, q_isNN, q_isNT, q_isNI, q_isNL, q_isBB, q_isNB, q_isNS, q_isnNN, q_isnNT, q_isnNI, q_isnNL, q_andT, q_andF, q_orT, q_orF, q_not, q_toB, q_part, q_fzI, q_fzB, q_fzS, q_fzN, q_fzT, q_fzL, q_fzW, q_fzSt, q_fzSc, s_nil, s_cons, k_nx, k_rt, k_bk, k_ct, s_asg, s_asgF, s_asgT, k_asg, s_par, s_expr, s_iff, s_retN, s_raise, s_brk, s_cont, s_lams, s_pass, s_frz, k_frzO, k_frzV, s_retV, k_retO, k_retV, s_ret_non, s_ret_bl, s_ret_int, s_ret_str, s_ret_con, s_ret_bin, s_ret_neg, s_ret_cmp, s_ret_chain, s_ret_chain3, s_ret_lrng, s_ret_and, s_ret_or, s_ret_not, s_ret_ite, s_ret_tup, s_ret_lst, s_ret_idx, s_ret_slc, s_ret_call, s_ret_callK, s_ret_op0, s_ret_op1, s_ret_callM, s_ret_blt, s_ret_isx, s_ret_errs, s_ret_isk, s_ret_comp, s_app, k_runR, k_runN, for_nil, k_forN, k_forC, k_forB, k_forR, g_nm, g_tp, o_some, noErr_ret, Yes, retK, ret_bind, err_bind, bad_bind, draw_bind, getV, slOf, slO, setAll, parT, List.length_cons, List.length_nil, List.map_cons, List.map_nil, List.getElem?_cons_zero, List.getElem?_cons_succ, List.set_cons_zero, List.set_cons_succ, List.cons_append, List.nil_append, List.replicate_succ, List.replicate_zero, ej, t5]
  exact yes_draw fun y y0 y1 => yes_ret ⟨_, ⟨⟨e, a, b, x, y⟩, rfl, ⟨h1, Int.le_of_eq ab, h2, h3, h4, x0, y0, .inl ab⟩⟩, rfl⟩
theorem s19_4 {e a b : Int} (e0 : Dr k) (e9 : Pk k) (ab : a ≤ b) (h1 : f ≤ a) (h2 : b ≤ c) (h3 : f ≤ e) (h4 : e + b - a ≤ c) : Yes (fun fl => ∃ d, StV f c d ∧ fl = .rt d) (ex k WH t19_4 [.val .sta, .val (potD f c), .val (.int a), .val (.int b), .val (.int e), .val (.int f), .val (.int c)]) := by
  unfold t19_4
  by_cases z : a < b
  · have z2 : decide (a < b) = true := decide_eq_true z
    simp only [e_non, e_bl, e_int, e_str, e_var, e_con, e_bin, e_neg, e_cmp, e_chain, e_chain3, e_lrng, e_and, e_or, e_not, e_ite, e_tup, e_lst, e_idx, e_slc, e_call, e_callK, e_blt, e_isk, e_caught, e_isx, e_must, e_errs, q_must, e_op0, e_op1, e_callM, b_op1, b_callM, i_callK, i_op1, o_emp, o_revT, b_var, b_cmp, b_chain, b_chain3, b_and, b_or, b_not, b_yes, b_call, b_callK, b_blt, b_isx, b_errs, b_isk, a_nil, a_cons, r_nil, r_cons, o_nopart, o_part, i_rng1, i_rng2, i_zip, i_enum, i_cap, i_var, i_blt, i_call, i_tup, i_lst, i_idx, i_slc, q_add, q_sub, q_neg, q_lt, q_le, q_gt, q_ge, q_eqI, q_neI, q_isNN, q_isNT, q_isNI, q_isNL, q_isBB, q_isNB, q_isNS, q_isnNN, q_isnNT, q_isnNI, q_isnNL, q_andT, q_andF, q_orT, q_orF, q_not, q_toB, q_part, q_fzI, q_fzB, q_fzS, q_fzN, q_fzT, q_fzL, q_fzW, q_fzSt, q_fzSc, s_nil, s_cons, k_nx, k_rt, k_bk, k_ct, s_asg, s_asgF, s_asgT, k_asg, s_par, s_expr, s_iff, s_retN, s_raise, s_brk, s_cont, s_lams, s_pass, s_frz, k_frzO, k_frzV, s_retV, k_retO, k_retV, s_ret_non, s_ret_bl, s_ret_int, s_ret_str, s_ret_con, s_ret_bin, s_ret_neg, s_ret_cmp, s_ret_chain, s_ret_chain3, s_ret_lrng, s_ret_and, s_ret_or, s_ret_not, s_ret_ite, s_ret_tup, s_ret_lst, s_ret_idx, s_ret_slc, s_ret_call, s_ret_callK, s_ret_op0, s_ret_op1, s_ret_callM, s_ret_blt, s_ret_isx, s_ret_errs, s_ret_isk, s_ret_comp, s_app, k_runR, k_runN, for_nil, k_forN, k_forC, k_forB, k_forR, g_nm, g_tp, o_some, noErr_ret, Yes, retK, ret_bind, err_bind, bad_bind, draw_bind, getV, slOf, slO, setAll, parT, List.length_cons, List.length_nil, List.map_cons, List.map_nil, List.getElem?_cons_zero, List.getElem?_cons_succ, List.set_cons_zero, List.set_cons_succ, List.cons_append, List.nil_append, List.replicate_succ, List.replicate_zero, z2, if_true, t5]
    exact yes_ret ⟨_, ⟨⟨e, a, b, 0, 0⟩, rfl, ⟨h1, ab, h2, h3, h4, Int.le_refl 0, Int.le_refl 0, .inr rfl⟩⟩, rfl⟩
  · have z2 : decide (a < b) = false := decide_eq_false z
    simp only [e_non, e_bl, e_int, e_str, e_var, e_con, e_bin, e_neg, e_cmp, e_chain, e_chain3, e_lrng, e_and, e_or, e_not, e_ite, e_tup, e_lst, e_idx, e_slc, e_call, e_callK, e_blt, e_isk, e_caught, e_isx, e_must, e_errs, q_must, e_op0, e_op1, e_callM, b_op1, b_callM, i_callK, i_op1, o_emp, o_revT, b_var, b_cmp, b_chain, b_chain3, b_and, b_or, b_not, b_yes, b_call, b_callK, b_blt, b_isx, b_errs, b_isk, a_nil, a_cons, r_nil, r_cons, o_nopart, o_part, i_rng1, i_rng2, i_zip, i_enum, i_cap, i_var, i_blt, i_call, i_tup, i_lst, i_idx, i_slc, q_add, q_sub, q_neg, q_lt, q_le, q_gt, q_ge, q_eqI, q_neI, q_isNN, q_isNT, q_isNI, q_isNL, q_isBB, q_isNB, q_isNS, q_isnNN, q_isnNT, q_isnNI, q_isnNL, q_andT, q_andF, q_orT, q_orF, q_not, q_toB, q_part, q_fzI, q_fzB, q_fzS, q_fzN, q_fzT, q_fzL, q_fzW, q_fzSt, q_fzSc, s_nil, s_cons, k_nx, k_rt, k_bk, k_ct, s_asg, s_asgF, s_asgT, k_asg, s_par, s_expr, s_iff, s_retN, s_raise, s_brk, s_cont, s_lams, s_pass, s_frz, k_frzO, k_frzV, s_retV, k_retO, k_retV, s_ret_non, s_ret_bl, s_ret_int, s_ret_str, s_ret_con, s_ret_bin, s_ret_neg, s_ret_cmp, s_ret_chain, s_ret_chain3, s_ret_lrng, s_ret_and, s_ret_or, s_ret_not, s_ret_ite, s_ret_tup, s_ret_lst, s_ret_idx, s_ret_slc, s_ret_call, s_ret_callK, s_ret_op0, s_ret_op1, s_ret_callM, s_ret_blt, s_ret_isx, s_ret_errs, s_ret_isk, s_ret_comp, s_app, k_runR, k_runN, for_nil, k_forN, k_forC, k_forB, k_forR, g_nm, g_tp, o_some, noErr_ret, Yes, retK, ret_bind, err_bind, bad_bind, draw_bind, getV, slOf, slO, setAll, parT, List.length_cons, List.length_nil, List.map_cons, List.map_nil, List.getElem?_cons_zero, List.getElem?_cons_succ, List.set_cons_zero, List.set_cons_succ, List.cons_append, List.nil_append, List.replicate_succ, List.replicate_zero, z2, Bool.false_eq_true, if_false]
    exact s19_5 e0 e9 (by omega) h1 h2 h3 h4
theorem s19_3 {a b : Int} {r4 : Sl} (hp : Pot f c) (e0 : Dr k) (e9 : Pk k) (ab : a ≤ b) (h1 : f ≤ a) (h2 : b ≤ c) : Yes (fun fl => ∃ d, StV f c d ∧ fl = .rt d) (ex k WH t19_3 [.val .sta, .val (potD f c), .val (.int a), .val (.int b), r4, .val (.int f), .val (.int c)]) := by
  obtain ⟨p1, p2, p3⟩ := hp
  have ed := e0 (c - b + a - f + 1) (by omega) (by omega)
  unfold t19_3
  simp only [e_non, e_bl, e_int, e_str, e_var, e_con, e_bin, e_neg, e_cmp, e_chain, e_chain3, e_lrng, e_and, e_or, e_not, e_ite, e_tup, e_lst, e_idx, e_slc, e_call, e_callK, e_blt, e_isk, e_caught, e_isx, e_must, e_errs, q_must, e_op0, e_op1, e_callM, b_op1, b_callM, i_callK, i_op1, o_emp, o_revT, b_var, b_cmp, b_chain, b_chain3, b_and, b_or, b_not, b_yes, b_call, b_callK, b_blt, b_isx, b_errs, b_isk, a_nil, a_cons, r_nil, r_cons, o_nopart, o_part, i_rng1, i_rng2, i_zip, i_enum, i_cap, i_var, i_blt, i_call, i_tup, i_lst, i_idx, i_slc, q_add, q_sub, q_neg, q_lt, q_le, q_gt, q_ge, q_eqI, q_neI, q_isNN, q_isNT, q_isNI, q_isNL, q_isBB, q_isNB, q_isNS, q_isnNN, q_isnNT, q_isnNI, q_isnNL, q_andT, q_andF, q_orT, q_orF, q_not, q_toB, q_part, q_fzI, q_fzB, q_fzS, q_fzN, q_fzT, q_fzL, q_fzW, q_fzSt, q_fzSc, s_nil, s_cons, k_nx, k_rt, k_bk, k_ct, s_asg, s_asgF, s_asgT, k_asg, s_par, s_expr, s_iff, s_retN, s_raise, s_brk, s_cont, s_lams, s_pass, s_frz, k_frzO, k_frzV, s_retV, k_retO, k_retV, s_ret_non, s_ret_bl, s_ret_int, s_ret_str, s_ret_con, s_ret_bin, s_ret_neg, s_ret_cmp, s_ret_chain, s_ret_chain3, s_ret_lrng, s_ret_and, s_ret_or, s_ret_not, s_ret_ite, s_ret_tup, s_ret_lst, s_ret_idx, s_ret_slc, s_ret_call, s_ret_callK, s_ret_op0, s_ret_op1, s_ret_callM, s_ret_blt, s_ret_isx, s_ret_errs, s_ret_isk, s_ret_comp, s_app, k_runR, k_runN, for_nil, k_forN, k_forC, k_forB, k_forR, g_nm, g_tp, o_some, noErr_ret, Yes, retK, ret_bind, err_bind, bad_bind, draw_bind, getV, slOf, slO, setAll, parT, List.length_cons, List.length_nil, List.map_cons, List.map_nil, List.getElem?_cons_zero, List.getElem?_cons_succ, List.set_cons_zero, List.set_cons_succ, List.cons_append, List.nil_append, List.replicate_succ, List.replicate_zero, ed, lt3, bind_assoc']
  refine yes_draw fun x x0 x1 => ?_
  refine yes_then (pick3 e9) fun v hv => ?_
  obtain ⟨i, rfl, hi⟩ := hv
  simp only [e_non, e_bl, e_int, e_str, e_var, e_con, e_bin, e_neg, e_cmp, e_chain, e_chain3, e_lrng, e_and, e_or, e_not, e_ite, e_tup, e_lst, e_idx, e_slc, e_call, e_callK, e_blt, e_isk, e_caught, e_isx, e_must, e_errs, q_must, e_op0, e_op1, e_callM, b_op1, b_callM, i_callK, i_op1, o_emp, o_revT, b_var, b_cmp, b_chain, b_chain3, b_and, b_or, b_not, b_yes, b_call, b_callK, b_blt, b_isx, b_errs, b_isk, a_nil, a_cons, r_nil, r_cons, o_nopart, o_part, i_rng1, i_rng2, i_zip, i_enum, i_cap, i_var, i_blt, i_call, i_tup, i_lst, i_idx, i_slc, q_add, q_sub, q_neg, q_lt, q_le, q_gt, q_ge, q_eqI, q_neI, q_isNN, q_isNT, q_isNI, q_isNL, q_isBB, q_isNB, q_isNS, q_isnNN, q_isnNT, q_isnNI, q_isnNL, q_andT, q_andF, q_orT, q_orF, q_not, q_toB, q_part, q_fzI, q_fzB, q_fzS, q_fzN, q_fzT, q_fzL, q_fzW, q_fzSt, q_fzSc, s_nil, s_cons, k_nx, k_rt, k_bk, k_ct, s_asg, s_asgF, s_asgT, k_asg, s_par, s_expr, s_iff, s_retN, s_raise, s_brk, s_cont, s_lams, s_pass, s_frz, k_frzO, k_frzV, s_retV, k_retO, k_retV, s_ret_non, s_ret_bl, s_ret_int, s_ret_str, s_ret_con, s_ret_bin, s_ret_neg, s_ret_cmp, s_ret_chain, s_ret_chain3, s_ret_lrng, s_ret_and, s_ret_or, s_ret_not, s_ret_ite, s_ret_tup, s_ret_lst, s_ret_idx, s_ret_slc, s_ret_call, s_ret_callK, s_ret_op0, s_ret_op1, s_ret_callM, s_ret_blt, s_ret_isx, s_ret_errs, s_ret_isk, s_ret_comp, s_app, k_runR, k_runN, for_nil, k_forN, k_forC, k_forB, k_forR, g_nm, g_tp, o_some, noErr_ret, Yes, retK, ret_bind, err_bind, bad_bind, draw_bind, getV, slOf, slO, setAll, parT, List.length_cons, List.length_nil, List.map_cons, List.map_nil, List.getElem?_cons_zero, List.getElem?_cons_succ, List.set_cons_zero, List.set_cons_succ, List.cons_append, List.nil_append, List.replicate_succ, List.replicate_zero]
  exact s19_4 e0 e9 ab h1 h2 (by omega) (by omega)
theorem s19_2 {a : Int} {r3 r4 : Sl} (hp : Pot f c) (e0 : Dr k) (e9 : Pk k) (h1 : f ≤ a) (h2 : a ≤ c) : Yes (fun fl => ∃ d, StV f c d ∧ fl = .rt d) (ex k WH t19_2 [.val .sta, .val (potD f c), .val (.int a), r3, r4, .val (.int f), .val (.int c)]) := by
  obtain ⟨p1, p2, p3⟩ := hp
  have ed := e0 (c - a + 1) (by omega) (by omega)
  unfold t19_2
  simp only [e_non, e_bl, e_int, e_str, e_var, e_con, e_bin, e_neg, e_cmp, e_chain, e_chain3, e_lrng, e_and, e_or, e_not, e_ite, e_tup, e_lst, e_idx, e_slc, e_call, e_callK, e_blt, e_isk, e_caught, e_isx, e_must, e_errs, q_must, e_op0, e_op1, e_callM, b_op1, b_callM, i_callK, i_op1, o_emp, o_revT, b_var, b_cmp, b_chain, b_chain3, b_and, b_or, b_not, b_yes, b_call, b_callK, b_blt, b_isx, b_errs, b_isk, a_nil, a_cons, r_nil, r_cons, o_nopart, o_part, i_rng1, i_rng2, i_zip, i_enum, i_cap, i_var, i_blt, i_call, i_tup, i_lst, i_idx, i_slc, q_add, q_sub, q_neg, q_lt, q_le, q_gt, q_ge, q_eqI, q_neI, q_isNN, q_isNT, q_isNI, q_isNL, q_isBB, q_isNB, q_isNS, q_isnNN, q_isnNT, q_isnNI, q_isnNL, q_andT, q_andF, q_orT, q_orF, q_not, q_toB, q_part, q_fzI, q_fzB, q_fzS, q_fzN, q_fzT, q_fzL, q_fzW, q_fzSt, q_fzSc, s_nil, s_cons, k_nx, k_rt, k_bk, k_ct, s_asg, s_asgF, s_asgT, k_asg, s_par, s_expr, s_iff, s_retN, s_raise, s_brk, s_cont, s_lams, s_pass, s_frz, k_frzO, k_frzV, s_retV, k_retO, k_retV, s_ret_non, s_ret_bl, s_ret_int, s_ret_str, s_ret_con, s_ret_bin, s_ret_neg, s_ret_cmp, s_ret_chain, s_ret_chain3, s_ret_lrng, s_ret_and, s_ret_or, s_ret_not, s_ret_ite, s_ret_tup, s_ret_lst, s_ret_idx, s_ret_slc, s_ret_call, s_ret_callK, s_ret_op0, s_ret_op1, s_ret_callM, s_ret_blt, s_ret_isx, s_ret_errs, s_ret_isk, s_ret_comp, s_app, k_runR, k_runN, for_nil, k_forN, k_forC, k_forB, k_forR, g_nm, g_tp, o_some, noErr_ret, Yes, retK, ret_bind, err_bind, bad_bind, draw_bind, getV, slOf, slO, setAll, parT, List.length_cons, List.length_nil, List.map_cons, List.map_nil, List.getElem?_cons_zero, List.getElem?_cons_succ, List.set_cons_zero, List.set_cons_succ, List.cons_append, List.nil_append, List.replicate_succ, List.replicate_zero, ed, lt3, bind_assoc']
  refine yes_draw fun x x0 x1 => ?_
  refine yes_then (pick3 e9) fun v hv => ?_
  obtain ⟨i, rfl, hi⟩ := hv
  simp only [e_non, e_bl, e_int, e_str, e_var, e_con, e_bin, e_neg, e_cmp, e_chain, e_chain3, e_lrng, e_and, e_or, e_not, e_ite, e_tup, e_lst, e_idx, e_slc, e_call, e_callK, e_blt, e_isk, e_caught, e_isx, e_must, e_errs, q_must, e_op0, e_op1, e_callM, b_op1, b_callM, i_callK, i_op1, o_emp, o_revT, b_var, b_cmp, b_chain, b_chain3, b_and, b_or, b_not, b_yes, b_call, b_callK, b_blt, b_isx, b_errs, b_isk, a_nil, a_cons, r_nil, r_cons, o_nopart, o_part, i_rng1, i_rng2, i_zip, i_enum, i_cap, i_var, i_blt, i_call, i_tup, i_lst, i_idx, i_slc, q_add, q_sub, q_neg, q_lt, q_le, q_gt, q_ge, q_eqI, q_neI, q_isNN, q_isNT, q_isNI, q_isNL, q_isBB, q_isNB, q_isNS, q_isnNN, q_isnNT, q_isnNI, q_isnNL, q_andT, q_andF, q_orT, q_orF, q_not, q_toB, q_part, q_fzI, q_fzB, q_fzS, q_fzN, q_fzT, q_fzL, q_fzW, q_fzSt, q_fzSc, s_nil, s_cons, k_nx, k_rt, k_bk, k_ct, s_asg, s_asgF, s_asgT, k_asg, s_par, s_expr, s_iff, s_retN, s_raise, s_brk, s_cont, s_lams, s_pass, s_frz, k_frzO, k_frzV, s_retV, k_retO, k_retV, s_ret_non, s_ret_bl, s_ret_int, s_ret_str, s_ret_con, s_ret_bin, s_ret_neg, s_ret_cmp, s_ret_chain, s_ret_chain3, s_ret_lrng, s_ret_and, s_ret_or, s_ret_not, s_ret_ite, s_ret_tup, s_ret_lst, s_ret_idx, s_ret_slc, s_ret_call, s_ret_callK, s_ret_op0, s_ret_op1, s_ret_callM, s_ret_blt, s_ret_isx, s_ret_errs, s_ret_isk, s_ret_comp, s_app, k_runR, k_runN, for_nil, k_forN, k_forC, k_forB, k_forR, g_nm, g_tp, o_some, noErr_ret, Yes, retK, ret_bind, err_bind, bad_bind, draw_bind, getV, slOf, slO, setAll, parT, List.length_cons, List.length_nil, List.map_cons, List.map_nil, List.getElem?_cons_zero, List.getElem?_cons_succ, List.set_cons_zero, List.set_cons_succ, List.cons_append, List.nil_append, List.replicate_succ, List.replicate_zero]
  exact s19_3 ⟨p1, p2, p3⟩ e0 e9 (by omega) h1 (by omega)
theorem s19_0 (hp : Pot f c) (e0 : Dr k) (e9 : Pk k) : Yes (fun fl => ∃ d, StV f c d ∧ fl = .rt d) (ex k WH t19_0 [.val .sta, .val (potD f c), .un, .un, .un, .un, .un]) := by
  obtain ⟨p1, p2, p3⟩ := hp
  have ed := e0 (c - f + 1) (by omega) (by omega)
  have st : ex k WH t19_0 [.val .sta, .val (potD f c), .un, .un, .un, .un, .un] = ex k WH t19_1 [.val .sta, .val (potD f c), .un, .un, .un, .val (.int f), .val (.int c)] := by
    unfold t19_0 potD
    simp only [e_non, e_bl, e_int, e_str, e_var, e_con, e_bin, e_neg, e_cmp, e_chain, e_chain3, e_lrng, e_and, e_or, e_not, e_ite, e_tup, e_lst, e_idx, e_slc, e_call, e_callK, e_blt, e_isk, e_caught, e_isx, e_must, e_errs, q_must, e_op0, e_op1, e_callM, b_op1, b_callM, i_callK, i_op1, o_emp, o_revT, b_var, b_cmp, b_chain, b_chain3, b_and, b_or, b_not, b_yes, b_call, b_callK, b_blt, b_isx, b_errs, b_isk, a_nil, a_cons, r_nil, r_cons, o_nopart, o_part, i_rng1, i_rng2, i_zip, i_enum, i_cap, i_var, i_blt, i_call, i_tup, i_lst, i_idx, i_slc, q_add, q_sub, q_neg, q_lt, q_le, q_gt, q_ge, q_eqI, q_neI, q_isNN, q_isNT, q_isNI, q_isNL, q_isBB, q_isNB, q_isNS, q_isnNN, q_isnNT, q_isnNI, q_isnNL, q_andT, q_andF, q_orT, q_orF, q_not, q_toB, q_part, q_fzI, q_fzB, q_fzS, q_fzN, q_fzT, q_fzL, q_fzW, q_fzSt, q_fzSc, s_nil, s_cons, k_nx, k_rt, k_bk, k_ct, s_asg, s_asgF, s_asgT, k_asg, s_par, s_expr, s_iff, s_retN, s_raise, s_brk, s_cont, s_lams, s_pass, s_frz, k_frzO, k_frzV, s_retV, k_retO, k_retV, s_ret_non, s_ret_bl, s_ret_int, s_ret_str, s_ret_con, s_ret_bin, s_ret_neg, s_ret_cmp, s_ret_chain, s_ret_chain3, s_ret_lrng, s_ret_and, s_ret_or, s_ret_not, s_ret_ite, s_ret_tup, s_ret_lst, s_ret_idx, s_ret_slc, s_ret_call, s_ret_callK, s_ret_op0, s_ret_op1, s_ret_callM, s_ret_blt, s_ret_isx, s_ret_errs, s_ret_isk, s_ret_comp, s_app, k_runR, k_runN, for_nil, k_forN, k_forC, k_forB, k_forR, g_nm, g_tp, o_some, noErr_ret, Yes, retK, ret_bind, err_bind, bad_bind, draw_bind, getV, slOf, slO, setAll, parT, List.length_cons, List.length_nil, List.map_cons, List.map_nil, List.getElem?_cons_zero, List.getElem?_cons_succ, List.set_cons_zero, List.set_cons_succ, List.cons_append, List.nil_append, List.replicate_succ, List.replicate_zero]
  rw [st]
  unfold t19_1
  simp only [e_non, e_bl, e_int, e_str, e_var, e_con, e_bin, e_neg, e_cmp, e_chain, e_chain3, e_lrng, e_and, e_or, e_not, e_ite, e_tup, e_lst, e_idx, e_slc, e_call, e_callK, e_blt, e_isk, e_caught, e_isx, e_must, e_errs, q_must, e_op0, e_op1, e_callM, b_op1, b_callM, i_callK, i_op1, o_emp, o_revT, b_var, b_cmp, b_chain, b_chain3, b_and, b_or, b_not, b_yes, b_call, b_callK, b_blt, b_isx, b_errs, b_isk, a_nil, a_cons, r_nil, r_cons, o_nopart, o_part, i_rng1, i_rng2, i_zip, i_enum, i_cap, i_var, i_blt, i_call, i_tup, i_lst, i_idx, i_slc, q_add, q_sub, q_neg, q_lt, q_le, q_gt, q_ge, q_eqI, q_neI, q_isNN, q_isNT, q_isNI, q_isNL, q_isBB, q_isNB, q_isNS, q_isnNN, q_isnNT, q_isnNI, q_isnNL, q_andT, q_andF, q_orT, q_orF, q_not, q_toB, q_part, q_fzI, q_fzB, q_fzS, q_fzN, q_fzT, q_fzL, q_fzW, q_fzSt, q_fzSc, s_nil, s_cons, k_nx, k_rt, k_bk, k_ct, s_asg, s_asgF, s_asgT, k_asg, s_par, s_expr, s_iff, s_retN, s_raise, s_brk, s_cont, s_lams, s_pass, s_frz, k_frzO, k_frzV, s_retV, k_retO, k_retV, s_ret_non, s_ret_bl, s_ret_int, s_ret_str, s_ret_con, s_ret_bin, s_ret_neg, s_ret_cmp, s_ret_chain, s_ret_chain3, s_ret_lrng, s_ret_and, s_ret_or, s_ret_not, s_ret_ite, s_ret_tup, s_ret_lst, s_ret_idx, s_ret_slc, s_ret_call, s_ret_callK, s_ret_op0, s_ret_op1, s_ret_callM, s_ret_blt, s_ret_isx, s_ret_errs, s_ret_isk, s_ret_comp, s_app, k_runR, k_runN, for_nil, k_forN, k_forC, k_forB, k_forR, g_nm, g_tp, o_some, noErr_ret, Yes, retK, ret_bind, err_bind, bad_bind, draw_bind, getV, slOf, slO, setAll, parT, List.length_cons, List.length_nil, List.map_cons, List.map_nil, List.getElem?_cons_zero, List.getElem?_cons_succ, List.set_cons_zero, List.set_cons_succ, List.cons_append, List.nil_append, List.replicate_succ, List.replicate_zero, ed, bind_assoc']
  exact yes_draw fun x x0 x1 => s19_2 ⟨p1, p2, p3⟩ e0 e9 (by omega) (by omega)
end
theorem f19 {n : Nat} {f c : Int} (h : Pot f c) : Yes (StV f c) (callF tab WH (n + 4) 19 [.sta, potD f c]) := by
  refine Yes.of_eq (u := runD (callF tab WH (n + 3)) WH d19 [.sta, potD f c]) rfl ?_
  rw [run_eq rfl, body19, show startE d19.N [.sta, potD f c] = [.val .sta, .val (potD f c), .un, .un, .un, .un, .un] from rfl]
  refine yes_then (s19_0 h (fun m h1 h2 => dr h1 h2) (fun xs h1 h2 h3 => f9 h1 h2 h3)) (fun fl h => ?_)
  obtain ⟨d, hd, rfl⟩ := h
  obtain ⟨s, rfl, o⟩ := hd
  exact yes_ret ⟨s, rfl, o⟩
end LW
end
section
set_option maxHeartbeats 1000000
namespace LW
open PySem PV
theorem yes_for {α : Type} {set : D → PV.Env → T PV.Env} {body : PV.Env → T Fl} {g : α → D} {Inv : List α → PV.Env → Prop} {V : D → Prop} (l : List α) (h : ∀ x l' r, Inv (x :: l') r → ∃ r1, set (g x) r = .ret r1 ∧ Yes (goP (Inv l') V) (body r1)) (r : PV.Env) (hr : Inv l r) : Yes (goP (Inv []) V) (forL set body (l.map g) r) :=
  ⟨for_all l (fun x l' r q => let ⟨r1, e, y⟩ := h x l' r q; ⟨r1, e, y.all⟩) r hr⟩
theorem deq5 {a b c d e : Int} : deq (.tup [.int a, .int b, .int c, .int d, .int e]) (.tup [.int a, .int b, .int c, .int d, .int e]) = .ret true := by
  unfold deq
  simp [okPy, D.toPy, D.toPys, SeqAt.shaped, PyData.canLay0, PyData.canLayAll0, PyData.depth, PyData.depthAll, PyData.eqv, PyData.eqvAll]
theorem deq3 {a b c : Int} : deq (.tup [.int a, .int b, .int c]) (.tup [.int a, .int b, .int c]) = .ret true := by
  unfold deq
  simp [okPy, D.toPy, D.toPys, SeqAt.shaped, PyData.canLay0, PyData.canLayAll0, PyData.depth, PyData.depthAll, PyData.eqv, PyData.eqvAll]
theorem ne_st {s : St} : cmpT .ne (stD s) (stD s) = .ret false := by
  show (deq _ _ >>= fun c => T.ret (!c)) = _
  unfold stD
  rw [deq5]
  rfl
theorem ne_i3 {x : I3} : cmpT .ne (i3D x) (i3D x) = .ret false := by
  show (deq _ _ >>= fun c => T.ret (!c)) = _
  unfold i3D
  rw [deq3]
  rfl
theorem ne_nn : cmpT .ne (.new []) (.new []) = .ret false := by
  show (deq _ _ >>= fun c => T.ret (!c)) = _
  unfold deq
  simp [okPy, D.toPy, D.toPys, SeqAt.shaped, PyData.canLay0, PyData.canLayAll0, PyData.depth, PyData.depthAll, PyData.eqv, PyData.eqvAll]
  rfl
/-! no pots -/
def t18_0 : S := .cons (.ret (.call 9 (.cons (.var 0) (.cons (.lst (.cons .non (.cons (.tup (.cons (.int 0) (.cons (.int 0) .nil))) (.cons (.tup (.cons (.int 1) (.cons (.int 0) .nil))) (.cons (.lst (.cons (.int 0) (.cons (.int 1) .nil))) (.cons (.tup (.cons (.int 0) (.cons (.int 1) (.cons (.int 2) .nil)))) (.cons (.tup (.cons (.int 0) .nil)) (.cons (.tup (.cons (.int 0) (.cons (.bin .pow (.int 10) (.int 15)) .nil))) (.cons (.tup (.cons (.neg (.bin .pow (.int 10) (.int 15))) (.cons (.int 0) .nil))) (.cons (.tup (.cons (.bl true) (.cons (.int 2) .nil))) (.cons (.tup (.cons (.int 0) (.cons (.str "1") .nil))) (.cons (.int 5) .nil)))))))))))) .nil)))) .nil
theorem body18 : d18.body = t18_0 := rfl
def noPots : List D := [.non, .tup [.int 0, .int 0], .tup [.int 1, .int 0], .lst [.int 0, .int 1], .tup [.int 0, .int 1, .int 2], .tup [.int 0], .tup [.int 0, .int 1000000000000000], .tup [.int (-1000000000000000), .int 0], .tup [.bl true, .int 2], .tup [.int 0, .str "1"], .int 5]
theorem lt11 {a b c d e f g h i j k : D} : lenT [a, b, c, d, e, f, g, h, i, j, k] (.new [a, b, c, d, e, f, g, h, i, j, k]) = .ret (.new [a, b, c, d, e, f, g, h, i, j, k]) := rfl
theorem t1 {a : D} : lenT [a] (.tup [a]) = .ret (.tup [a]) := rfl
theorem e18 {k : Nat → List D → T D} : (evs k (.call 9 (.cons (.var 0) (.cons (.lst (.cons .non (.cons (.tup (.cons (.int 0) (.cons (.int 0) .nil))) (.cons (.tup (.cons (.int 1) (.cons (.int 0) .nil))) (.cons (.lst (.cons (.int 0) (.cons (.int 1) .nil))) (.cons (.tup (.cons (.int 0) (.cons (.int 1) (.cons (.int 2) .nil)))) (.cons (.tup (.cons (.int 0) .nil)) (.cons (.tup (.cons (.int 0) (.cons (.bin .pow (.int 10) (.int 15)) .nil))) (.cons (.tup (.cons (.neg (.bin .pow (.int 10) (.int 15))) (.cons (.int 0) .nil))) (.cons (.tup (.cons (.bl true) (.cons (.int 2) .nil))) (.cons (.tup (.cons (.int 0) (.cons (.str "1") .nil))) (.cons (.int 5) .nil)))))))))))) .nil)))).E [.val .sta] = k 9 [.sta, .lst noPots] := by
  unfold noPots
  simp only [e_call, e_bin, e_var, e_lst, e_int, e_str, e_bl, e_tup, e_non, e_neg, q_neg, a_cons, a_nil, ret_bind, getV, List.length_cons, List.length_nil, List.map_cons, List.map_nil, List.getElem?_cons_zero, List.getElem?_cons_succ, List.set_cons_zero, List.set_cons_succ, List.cons_append, List.nil_append, List.replicate_succ, List.replicate_zero, q_fzI, q_fzB, q_fzS, q_fzN, q_fzT, q_fzL, q_fzW, q_fzSt, t1, t2, t3, lt2, lt11, pw15]
theorem np_kd : ∀ d ∈ noPots, kd d = true := by
  intro d hd
  simp only [noPots, List.mem_cons, List.not_mem_nil, or_false] at hd
  rcases hd with rfl | rfl | rfl | rfl | rfl | rfl | rfl | rfl | rfl | rfl | rfl <;> rfl
theorem f18 {n : Nat} : Yes (fun d => d ∈ noPots) (callF tab WH (n + 4) 18 [.sta]) := by
  refine Yes.of_eq (u := runD (callF tab WH (n + 3)) WH d18 [.sta]) rfl ?_
  rw [run_eq rfl, body18, show startE d18.N [.sta] = [.val .sta] from rfl]
  unfold t18_0
  simp only [s_cons, s_ret_call, e18, bind_assoc']
  refine yes_then (f9 (n := n) (by show 0 < 11; decide) (by show 11 < 1000; decide) np_kd) fun d hd => ?_
  rw [retK_kd (np_kd d hd)]
  exact yes_ret hd
def isErr (e : Nat) (t : T D) : Bool := match t with
  | .err c => c == e
  | _ => false
theorem isErr_ok {e : Nat} {t : T D} (h : isErr e t = true) : t = .err e := by
  unfold isErr at h
  split at h
  · rw [beq_iff_eq] at h
    rw [h]
  · cases h
theorem f8n : ∀ v ∈ noPots, callF tab WH 10 8 [v, .non, .non] = .err 3 := by
  intro v hv
  simp only [noPots, List.mem_cons, List.not_mem_nil, or_false] at hv
  refine isErr_ok ?_
  rcases hv with rfl | rfl | rfl | rfl | rfl | rfl | rfl | rfl | rfl | rfl | rfl <;> decide +kernel
/-! a row linked in a drawn order -/
theorem cut_t {xs : List D} {i : Nat} (h : i ≤ xs.length) : cutD xs none (some (i : Int)) = xs.take i := by
  unfold cutD
  rw [HT.sIx_nat, HT.sIx_none, List.drop_zero, Nat.sub_zero, Nat.min_eq_left h]
theorem cut_d {xs : List D} {i : Nat} (h : i ≤ xs.length) : cutD xs (some (i : Int)) none = xs.drop i := by
  unfold cutD
  rw [HT.sIx_nat, HT.sIx_none, Nat.min_eq_left h, List.take_of_length_le]
  rw [List.length_drop]
  exact Nat.le_refl _
def t22_2 : S := .cons (.ret (.idx (.var 1) (.int 0))) .nil
def t22_1 : S := .cons (.for_ (.nm 3) (.rng1 (.bin .sub (.blt .len (.cons (.var 1) .nil)) (.int 1))) (.cons (.asgF 4 (.call 0 (.cons (.var 2) (.cons (.bin .sub (.blt .len (.cons (.var 1) .nil)) (.int 1)) .nil)))) (.cons (.asgF 1 (.bin .add (.bin .add (.slc (.var 1) .nopart (.part (.var 4))) (.lst (.cons (.call 8 (.cons (.var 0) (.cons (.idx (.var 1) (.var 4)) (.cons (.idx (.var 1) (.bin .add (.var 4) (.int 1))) .nil)))) .nil))) (.slc (.var 1) (.part (.bin .add (.var 4) (.int 2))) .nopart))) .nil))) t22_2
def t22_0 : S := .cons (.asgF 1 (.blt .list (.cons (.var 1) .nil))) t22_1
theorem body22 : d22.body = t22_0 := rfl
def v_1 : S := .cons (.asgF 1 (.bin .add (.bin .add (.slc (.var 1) .nopart (.part (.var 4))) (.lst (.cons (.call 8 (.cons (.var 0) (.cons (.idx (.var 1) (.var 4)) (.cons (.idx (.var 1) (.bin .add (.var 4) (.int 1))) .nil)))) .nil))) (.slc (.var 1) (.part (.bin .add (.var 4) (.int 2))) .nopart))) .nil
def v_0 : S := .cons (.asgF 4 (.call 0 (.cons (.var 2) (.cons (.bin .sub (.blt .len (.cons (.var 1) .nil)) (.int 1)) .nil)))) v_1
theorem add_nn {a b : List D} (h : a.length + b.length ≤ 16777216) : binT .add (.new a) (.new b) = .ret (.new (a ++ b)) := by
  show lenIf _ _ = _
  exact if_pos h
section
variable {k : Nat → List D → T D}
theorem s22a {p : D} {R : List D} {r3 r4 : Sl} {m : Int} (hl : bltT .len [.lst R] = .ret (.int m)) (e0 : k 0 [.sta, .int (m - 1)] = .draw (m - 1) fun d => .ret (.int d)) : ex k WH v_0 [.val p, .val (.lst R), .val .sta, r3, r4] = .draw (m - 1) fun t => ex k WH v_1 [.val p, .val (.lst R), .val .sta, r3, .val (.int t)] := by
  unfold v_0
  simp only [e_non, e_bl, e_int, e_str, e_var, e_con, e_bin, e_neg, e_cmp, e_chain, e_chain3, e_lrng, e_and, e_or, e_not, e_ite, e_tup, e_lst, e_idx, e_slc, e_call, e_callK, e_blt, e_isk, e_caught, e_isx, e_must, e_errs, q_must, e_op0, e_op1, e_callM, b_op1, b_callM, i_callK, i_op1, o_emp, o_revT, b_var, b_cmp, b_chain, b_chain3, b_and, b_or, b_not, b_yes, b_call, b_callK, b_blt, b_isx, b_errs, b_isk, a_nil, a_cons, r_nil, r_cons, o_nopart, o_part, i_rng1, i_rng2, i_zip, i_enum, i_cap, i_var, i_blt, i_call, i_tup, i_lst, i_idx, i_slc, q_add, q_sub, q_neg, q_lt, q_le, q_gt, q_ge, q_eqI, q_neI, q_isNN, q_isNT, q_isNI, q_isNL, q_isBB, q_isNB, q_isNS, q_isnNN, q_isnNT, q_isnNI, q_isnNL, q_andT, q_andF, q_orT, q_orF, q_not, q_toB, q_part, q_fzI, q_fzB, q_fzS, q_fzN, q_fzT, q_fzL, q_fzW, q_fzSt, q_fzSc, s_nil, s_cons, k_nx, k_rt, k_bk, k_ct, s_asg, s_asgF, s_asgT, k_asg, s_par, s_expr, s_iff, s_retN, s_raise, s_brk, s_cont, s_lams, s_pass, s_frz, k_frzO, k_frzV, s_retV, k_retO, k_retV, s_ret_non, s_ret_bl, s_ret_int, s_ret_str, s_ret_con, s_ret_bin, s_ret_neg, s_ret_cmp, s_ret_chain, s_ret_chain3, s_ret_lrng, s_ret_and, s_ret_or, s_ret_not, s_ret_ite, s_ret_tup, s_ret_lst, s_ret_idx, s_ret_slc, s_ret_call, s_ret_callK, s_ret_op0, s_ret_op1, s_ret_callM, s_ret_blt, s_ret_isx, s_ret_errs, s_ret_isk, s_ret_comp, s_app, k_runR, k_runN, for_nil, k_forN, k_forC, k_forB, k_forR, g_nm, g_tp, o_some, noErr_ret, Yes, retK, ret_bind, err_bind, bad_bind, draw_bind, getV, slOf, slO, setAll, parT, List.length_cons, List.length_nil, List.map_cons, List.map_nil, List.getElem?_cons_zero, List.getElem?_cons_succ, List.set_cons_zero, List.set_cons_succ, List.cons_append, List.nil_append, List.replicate_succ, List.replicate_zero, hl, e0]
theorem s22b {p x y z : D} {R L1 L2 : List D} {r3 : Sl} {t : Int} (fp : fz p = .ret p) (fx : fz x = .ret x) (fy : fz y = .ret y) (fzz : fz z = .ret z) (h1 : slcT (.lst R) none (some t) = .ret (.new L1)) (h2 : slcT (.lst R) (some (t + 2)) none = .ret (.new L2)) (ix : idxT (.lst R) (.int t) = .ret x) (iy : idxT (.lst R) (.int (t + 1)) = .ret y)
    (e8 : k 8 [p, x, y] = .ret z) (a1 : binT .add (.new L1) (.new [z]) = .ret (.new (L1 ++ [z]))) (a2 : binT .add (.new (L1 ++ [z])) (.new L2) = .ret (.new (L1 ++ [z] ++ L2))) : ex k WH v_1 [.val p, .val (.lst R), .val .sta, r3, .val (.int t)] = .ret (.nx [.val p, .val (.lst (L1 ++ [z] ++ L2)), .val .sta, r3, .val (.int t)]) := by
  have l1 : lenT [z] (.new [z]) = .ret (.new [z]) := rfl
  unfold v_1
  simp only [e_non, e_bl, e_int, e_str, e_var, e_con, e_bin, e_neg, e_cmp, e_chain, e_chain3, e_lrng, e_and, e_or, e_not, e_ite, e_tup, e_lst, e_idx, e_slc, e_call, e_callK, e_blt, e_isk, e_caught, e_isx, e_must, e_errs, q_must, e_op0, e_op1, e_callM, b_op1, b_callM, i_callK, i_op1, o_emp, o_revT, b_var, b_cmp, b_chain, b_chain3, b_and, b_or, b_not, b_yes, b_call, b_callK, b_blt, b_isx, b_errs, b_isk, a_nil, a_cons, r_nil, r_cons, o_nopart, o_part, i_rng1, i_rng2, i_zip, i_enum, i_cap, i_var, i_blt, i_call, i_tup, i_lst, i_idx, i_slc, q_add, q_sub, q_neg, q_lt, q_le, q_gt, q_ge, q_eqI, q_neI, q_isNN, q_isNT, q_isNI, q_isNL, q_isBB, q_isNB, q_isNS, q_isnNN, q_isnNT, q_isnNI, q_isnNL, q_andT, q_andF, q_orT, q_orF, q_not, q_toB, q_part, q_fzI, q_fzB, q_fzS, q_fzN, q_fzT, q_fzL, q_fzW, q_fzSt, q_fzSc, s_nil, s_cons, k_nx, k_rt, k_bk, k_ct, s_asg, s_asgF, s_asgT, k_asg, s_par, s_expr, s_iff, s_retN, s_raise, s_brk, s_cont, s_lams, s_pass, s_frz, k_frzO, k_frzV, s_retV, k_retO, k_retV, s_ret_non, s_ret_bl, s_ret_int, s_ret_str, s_ret_con, s_ret_bin, s_ret_neg, s_ret_cmp, s_ret_chain, s_ret_chain3, s_ret_lrng, s_ret_and, s_ret_or, s_ret_not, s_ret_ite, s_ret_tup, s_ret_lst, s_ret_idx, s_ret_slc, s_ret_call, s_ret_callK, s_ret_op0, s_ret_op1, s_ret_callM, s_ret_blt, s_ret_isx, s_ret_errs, s_ret_isk, s_ret_comp, s_app, k_runR, k_runN, for_nil, k_forN, k_forC, k_forB, k_forR, g_nm, g_tp, o_some, noErr_ret, Yes, retK, ret_bind, err_bind, bad_bind, draw_bind, getV, slOf, slO, setAll, parT, List.length_cons, List.length_nil, List.map_cons, List.map_nil, List.getElem?_cons_zero, List.getElem?_cons_succ, List.set_cons_zero, List.set_cons_succ, List.cons_append, List.nil_append, List.replicate_succ, List.replicate_zero, fp, fx, fy, fzz, h1, h2, ix, iy, e8, l1, a1, a2]
end
theorem step22 {k : Nat → List D → T D} {f c : Int} (hp : Pot f c) (e0 : Dr k) (e8 : ∀ p q, Ok f c p → Ok f c q → k 8 [potD f c, stD p, stD q] = .ret (stD (lk p q))) {R : List St} (hR : ∀ s ∈ R, Ok f c s) (h2 : 2 ≤ R.length) (h3 : R.length < 100000) {r3 r4 : Sl} :
    Yes (fun fl => ∃ (R' : List St) (r4' : Sl), fl = .nx [.val (potD f c), .val (.lst (R'.map stD)), .val .sta, r3, r4'] ∧ (∀ s ∈ R', Ok f c s) ∧ R'.length + 1 = R.length ∧ pr R' = pr R) (ex k WH v_0 [.val (potD f c), .val (.lst (R.map stD)), .val .sta, r3, r4]) := by
  have hl : bltT .len [.lst (R.map stD)] = .ret (.int R.length) := by
    show T.ret (D.int ((R.map stD).length : Nat)) = _
    rw [List.length_map]
  rw [s22a hl (e0 _ (by omega) (by omega))]
  refine yes_draw fun t t0 t1 => ?_
  obtain ⟨i, rfl⟩ := Int.eq_ofNat_of_zero_le t0
  have hi : i + 1 < R.length := by omega
  have hi0 : i < R.length := by omega
  have eR : R = R.take i ++ R[i] :: R[i + 1] :: R.drop (i + 2) := by
    rw [← List.drop_eq_getElem_cons hi, ← List.drop_eq_getElem_cons hi0, List.take_append_drop]
  have o1 := hR _ (List.getElem_mem hi0)
  have o2 := hR _ (List.getElem_mem hi)
  have s1 : slcT (.lst (R.map stD)) none (some (i : Int)) = .ret (.new ((R.take i).map stD)) := by
    show T.ret (D.new (cutD (R.map stD) none (some (i : Int)))) = _
    rw [cut_t (by rw [List.length_map]; omega), List.map_take]
  have s2 : slcT (.lst (R.map stD)) (some ((i : Int) + 2)) none = .ret (.new ((R.drop (i + 2)).map stD)) := by
    show T.ret (D.new (cutD (R.map stD) (some ((i + 2 : Nat) : Int)) none)) = _
    rw [cut_d (by rw [List.length_map]; omega), List.map_drop]
  have x1 : idxT (.lst (R.map stD)) (.int (i : Int)) = .ret (stD R[i]) := by
    show ofO (L2.atI (R.map stD) (i : Int)) = _
    rw [idx_nat (x := stD R[i]) (by rw [List.getElem?_map, List.getElem?_eq_getElem hi0]; rfl)]
    rfl
  have x2 : idxT (.lst (R.map stD)) (.int ((i : Int) + 1)) = .ret (stD R[i + 1]) := by
    show ofO (L2.atI (R.map stD) ((i + 1 : Nat) : Int)) = _
    rw [idx_nat (x := stD R[i + 1]) (by rw [List.getElem?_map, List.getElem?_eq_getElem hi]; rfl)]
    rfl
  have a1 := add_nn (a := (R.take i).map stD) (b := [stD (lk R[i] R[i + 1])]) (by rw [List.length_map, List.length_take]; show _ + 1 ≤ _; omega)
  have a2 := add_nn (a := (R.take i).map stD ++ [stD (lk R[i] R[i + 1])]) (b := (R.drop (i + 2)).map stD) (by rw [List.length_append, List.length_map, List.length_map, List.length_take, List.length_drop]; show _ + 1 + _ ≤ _; omega)
  rw [s22b fz_pot fz_st fz_st fz_st s1 s2 x1 x2 (e8 _ _ o1 o2) a1 a2]
  refine yes_ret ⟨R.take i ++ lk R[i] R[i + 1] :: R.drop (i + 2), .val (.int (i : Int)), ?_, fun s hs => ?_, ?_, ?_⟩
  · rw [List.map_append, List.map_cons, List.append_assoc]
    rfl
  · rcases List.mem_append.mp hs with z | z
    · exact hR s (List.mem_of_mem_take z)
    · rcases List.mem_cons.mp z with rfl | z
      · exact lk_ok o1 o2
      · exact hR s (List.mem_of_mem_drop z)
  · rw [List.length_append, List.length_cons, List.length_take, List.length_drop]
    omega
  · rw [pr_step hp.lt _ _ _ _ (fun t ht => hR t (List.mem_of_mem_take ht)) o1 o2, ← eR]
theorem s22_0 {k : Nat → List D → T D} {p : D} {R : List D} {l : List Int} {m : Int} (hl : bltT .len [.lst R] = .ret (.int m)) (hr : rng1T (.int (m - 1)) = .ret (l.map D.int)) : ex k WH t22_0 [.val p, .val (.lst R), .val .sta, .un, .un] = forL (bindTg (.nm 3)) (ex k WH v_0) (l.map D.int) [.val p, .val (.lst R), .val .sta, .un, .un] >>= seqK (ex k WH t22_2) := by
  have e1 : ∀ r, ex k WH t22_1 r = ex k WH (.for_ (.nm 3) (.rng1 (.bin .sub (.blt .len (.cons (.var 1) .nil)) (.int 1))) v_0) r >>= seqK (ex k WH t22_2) := fun r => s_cons
  have ll : bltT .list [.lst R] = .ret (.new R) := rfl
  unfold t22_0
  simp only [e_non, e_bl, e_int, e_str, e_var, e_con, e_bin, e_neg, e_cmp, e_chain, e_chain3, e_lrng, e_and, e_or, e_not, e_ite, e_tup, e_lst, e_idx, e_slc, e_call, e_callK, e_blt, e_isk, e_caught, e_isx, e_must, e_errs, q_must, e_op0, e_op1, e_callM, b_op1, b_callM, i_callK, i_op1, o_emp, o_revT, b_var, b_cmp, b_chain, b_chain3, b_and, b_or, b_not, b_yes, b_call, b_callK, b_blt, b_isx, b_errs, b_isk, a_nil, a_cons, r_nil, r_cons, o_nopart, o_part, i_rng1, i_rng2, i_zip, i_enum, i_cap, i_var, i_blt, i_call, i_tup, i_lst, i_idx, i_slc, q_add, q_sub, q_neg, q_lt, q_le, q_gt, q_ge, q_eqI, q_neI, q_isNN, q_isNT, q_isNI, q_isNL, q_isBB, q_isNB, q_isNS, q_isnNN, q_isnNT, q_isnNI, q_isnNL, q_andT, q_andF, q_orT, q_orF, q_not, q_toB, q_part, q_fzI, q_fzB, q_fzS, q_fzN, q_fzT, q_fzL, q_fzW, q_fzSt, q_fzSc, s_nil, s_cons, k_nx, k_rt, k_bk, k_ct, s_asg, s_asgF, s_asgT, k_asg, s_par, s_expr, s_iff, s_retN, s_raise, s_brk, s_cont, s_lams, s_pass, s_frz, k_frzO, k_frzV, s_retV, k_retO, k_retV, s_ret_non, s_ret_bl, s_ret_int, s_ret_str, s_ret_con, s_ret_bin, s_ret_neg, s_ret_cmp, s_ret_chain, s_ret_chain3, s_ret_lrng, s_ret_and, s_ret_or, s_ret_not, s_ret_ite, s_ret_tup, s_ret_lst, s_ret_idx, s_ret_slc, s_ret_call, s_ret_callK, s_ret_op0, s_ret_op1, s_ret_callM, s_ret_blt, s_ret_isx, s_ret_errs, s_ret_isk, s_ret_comp, s_app, k_runR, k_runN, for_nil, k_forN, k_forC, k_forB, k_forR, g_nm, g_tp, o_some, noErr_ret, Yes, retK, ret_bind, err_bind, bad_bind, draw_bind, getV, slOf, slO, setAll, parT, List.length_cons, List.length_nil, List.map_cons, List.map_nil, List.getElem?_cons_zero, List.getElem?_cons_succ, List.set_cons_zero, List.set_cons_succ, List.cons_append, List.nil_append, List.replicate_succ, List.replicate_zero, ll]
  rw [e1, s_for]
  simp only [e_non, e_bl, e_int, e_str, e_var, e_con, e_bin, e_neg, e_cmp, e_chain, e_chain3, e_lrng, e_and, e_or, e_not, e_ite, e_tup, e_lst, e_idx, e_slc, e_call, e_callK, e_blt, e_isk, e_caught, e_isx, e_must, e_errs, q_must, e_op0, e_op1, e_callM, b_op1, b_callM, i_callK, i_op1, o_emp, o_revT, b_var, b_cmp, b_chain, b_chain3, b_and, b_or, b_not, b_yes, b_call, b_callK, b_blt, b_isx, b_errs, b_isk, a_nil, a_cons, r_nil, r_cons, o_nopart, o_part, i_rng1, i_rng2, i_zip, i_enum, i_cap, i_var, i_blt, i_call, i_tup, i_lst, i_idx, i_slc, q_add, q_sub, q_neg, q_lt, q_le, q_gt, q_ge, q_eqI, q_neI, q_isNN, q_isNT, q_isNI, q_isNL, q_isBB, q_isNB, q_isNS, q_isnNN, q_isnNT, q_isnNI, q_isnNL, q_andT, q_andF, q_orT, q_orF, q_not, q_toB, q_part, q_fzI, q_fzB, q_fzS, q_fzN, q_fzT, q_fzL, q_fzW, q_fzSt, q_fzSc, s_nil, s_cons, k_nx, k_rt, k_bk, k_ct, s_asg, s_asgF, s_asgT, k_asg, s_par, s_expr, s_iff, s_retN, s_raise, s_brk, s_cont, s_lams, s_pass, s_frz, k_frzO, k_frzV, s_retV, k_retO, k_retV, s_ret_non, s_ret_bl, s_ret_int, s_ret_str, s_ret_con, s_ret_bin, s_ret_neg, s_ret_cmp, s_ret_chain, s_ret_chain3, s_ret_lrng, s_ret_and, s_ret_or, s_ret_not, s_ret_ite, s_ret_tup, s_ret_lst, s_ret_idx, s_ret_slc, s_ret_call, s_ret_callK, s_ret_op0, s_ret_op1, s_ret_callM, s_ret_blt, s_ret_isx, s_ret_errs, s_ret_isk, s_ret_comp, s_app, k_runR, k_runN, for_nil, k_forN, k_forC, k_forB, k_forR, g_nm, g_tp, o_some, noErr_ret, Yes, retK, ret_bind, err_bind, bad_bind, draw_bind, getV, slOf, slO, setAll, parT, List.length_cons, List.length_nil, List.map_cons, List.map_nil, List.getElem?_cons_zero, List.getElem?_cons_succ, List.set_cons_zero, List.set_cons_succ, List.cons_append, List.nil_append, List.replicate_succ, List.replicate_zero, hl, hr]
theorem f22 {n : Nat} {f c : Int} (h : Pot f c) {L : List St} (hL : ∀ s ∈ L, Ok f c s) (h1 : 1 ≤ L.length) (h2 : L.length < 100000) : Yes (fun d => d = stD (pr L)) (callF tab WH (n + 7) 22 [potD f c, .lst (L.map stD), .sta]) := by
  refine Yes.of_eq (u := runD (callF tab WH (n + 6)) WH d22 [potD f c, .lst (L.map stD), .sta]) rfl ?_
  rw [run_eq rfl, body22, show startE d22.N [potD f c, .lst (L.map stD), .sta] = [.val (potD f c), .val (.lst (L.map stD)), .val .sta, .un, .un] from rfl]
  have hl : bltT .len [.lst (L.map stD)] = .ret (.int L.length) := by
    show T.ret (D.int ((L.map stD).length : Nat)) = _
    rw [List.length_map]
  obtain ⟨l, hr, ll⟩ := rng1_T (hi := (L.length : Int) - 1) (by omega) (by omega)
  rw [s22_0 hl hr]
  have lo := yes_for (set := bindTg (.nm 3)) (body := ex (callF tab WH (n + 6)) WH v_0) (g := D.int) (V := fun _ => False)
    (Inv := fun l' r => ∃ (R : List St) (r3 r4 : Sl), r = [.val (potD f c), .val (.lst (R.map stD)), .val .sta, r3, r4] ∧ (∀ s ∈ R, Ok f c s) ∧ R.length = l'.length + 1 ∧ pr R = pr L ∧ R.length ≤ L.length) l
    (fun x l' r hr => by
      obtain ⟨R, r3, r4, rfl, q1, q2, q3, q4⟩ := hr
      refine ⟨_, rfl, ?_⟩
      rw [List.length_cons] at q2
      refine ⟨All0.mono (step22 h (fun m h1 h2 => dr h1 h2) (fun p q op oq => f8 (n := n) h op oq) q1 (by omega) (by omega) (r3 := .val (.int x)) (r4 := r4)).all (fun fl hfl => ?_) fun _ e => e⟩
      obtain ⟨R', r4', rfl, w1, w2, w3⟩ := hfl
      exact ⟨R', _, r4', rfl, w1, by omega, by rw [w3, q3], by omega⟩)
    [.val (potD f c), .val (.lst (L.map stD)), .val .sta, .un, .un] ⟨L, .un, .un, rfl, hL, by omega, rfl, Nat.le_refl _⟩
  refine yes_then (P := fun fl => fl = .rt (stD (pr L))) (yes_then lo fun fl q => ?_) (fun fl q => by subst q; exact yes_ret rfl)
  cases fl with
  | rt v => exact q.elim
  | bk _ => exact q.elim
  | ct _ => exact q.elim
  | nx r =>
    obtain ⟨R, r3, r4, rfl, q1, q2, q3, q4⟩ := q
    match R, q2, q3 with
    | [s], _, q3 =>
      have i0 : idxT (.lst [stD s]) (.int 0) = .ret (stD s) := rfl
      have q3 : s = pr L := q3
      rw [← q3]
      have rk : retK (stD s) = .ret (.rt (stD s)) := rfl
      unfold t22_2
      simp only [e_non, e_bl, e_int, e_str, e_var, e_con, e_bin, e_neg, e_cmp, e_chain, e_chain3, e_lrng, e_and, e_or, e_not, e_ite, e_tup, e_lst, e_idx, e_slc, e_call, e_callK, e_blt, e_isk, e_caught, e_isx, e_must, e_errs, q_must, e_op0, e_op1, e_callM, b_op1, b_callM, i_callK, i_op1, o_emp, o_revT, b_var, b_cmp, b_chain, b_chain3, b_and, b_or, b_not, b_yes, b_call, b_callK, b_blt, b_isx, b_errs, b_isk, a_nil, a_cons, r_nil, r_cons, o_nopart, o_part, i_rng1, i_rng2, i_zip, i_enum, i_cap, i_var, i_blt, i_call, i_tup, i_lst, i_idx, i_slc, q_add, q_sub, q_neg, q_lt, q_le, q_gt, q_ge, q_eqI, q_neI, q_isNN, q_isNT, q_isNI, q_isNL, q_isBB, q_isNB, q_isNS, q_isnNN, q_isnNT, q_isnNI, q_isnNL, q_andT, q_andF, q_orT, q_orF, q_not, q_toB, q_part, q_fzI, q_fzB, q_fzS, q_fzN, q_fzT, q_fzL, q_fzW, q_fzSt, q_fzSc, s_nil, s_cons, k_nx, k_rt, k_bk, k_ct, s_asg, s_asgF, s_asgT, k_asg, s_par, s_expr, s_iff, s_retN, s_raise, s_brk, s_cont, s_lams, s_pass, s_frz, k_frzO, k_frzV, s_retV, k_retO, k_retV, s_ret_non, s_ret_bl, s_ret_int, s_ret_str, s_ret_con, s_ret_bin, s_ret_neg, s_ret_cmp, s_ret_chain, s_ret_chain3, s_ret_lrng, s_ret_and, s_ret_or, s_ret_not, s_ret_ite, s_ret_tup, s_ret_lst, s_ret_idx, s_ret_slc, s_ret_call, s_ret_callK, s_ret_op0, s_ret_op1, s_ret_callM, s_ret_blt, s_ret_isx, s_ret_errs, s_ret_isk, s_ret_comp, s_app, k_runR, k_runN, for_nil, k_forN, k_forC, k_forB, k_forR, g_nm, g_tp, o_some, noErr_ret, Yes, retK, ret_bind, err_bind, bad_bind, draw_bind, getV, slOf, slO, setAll, parT, List.length_cons, List.length_nil, List.map_cons, List.map_nil, List.getElem?_cons_zero, List.getElem?_cons_succ, List.set_cons_zero, List.set_cons_succ, List.cons_append, List.nil_append, List.replicate_succ, List.replicate_zero, i0]
      exact yes_ret rfl
end LW
end
section
set_option maxHeartbeats 1000000
namespace LW
open PySem PV
def u_16 : S := .cons (.iff (.not (.errs 10 0 ["pot", "stretch", "stretch"] (.cons (.must (.isx 5 3 (.caught 5 (.call 8 (.cons (.var 9) (.cons .non (.cons .non .nil))))))) (.cons (.must (.isx 5 4 (.caught 5 (.call 8 (.cons (.var 3) (.cons (.var 8) (.cons .non .nil))))))) (.cons (.must (.isx 5 4 (.caught 5 (.call 8 (.cons (.var 3) (.cons (.var 13) (.cons (.var 8) .nil))))))) .nil))) (.lst (.cons (.str "pot") (.cons (.str "stretch") (.cons (.str "stretch") .nil)))))) (.cons (.ret (.bl false)) .nil) .nil) .nil
def u_15 : S := .cons (.lams 10 0) u_16
def u_14 : S := .cons (.asgF 9 (.call 18 (.cons (.var 1) .nil))) u_15
def u_13 : S := .cons (.asgF 8 (.call 9 (.cons (.var 1) (.cons (.lst (.cons .non (.cons (.blt .list (.cons (.var 13) .nil)) (.cons (.slc (.var 13) .nopart (.part (.int 4))) (.cons (.bin .add (.var 13) (.tup (.cons (.int 0) .nil))) (.cons (.bin .add (.tup (.cons (.idx (.var 13) (.int 0)) (.cons (.bin .add (.idx (.var 13) (.int 2)) (.int 1)) .nil))) (.slc (.var 13) (.part (.int 2)) .nopart)) .nil)))))) .nil)))) u_14
def u_12 : S := .cons (.iff (.cmp .ne (.call 22 (.cons (.var 3) (.cons (.var 5) (.cons (.var 1) .nil)))) (.var 6)) (.cons (.ret (.bl false)) .nil) .nil) u_13
def u_11 : S := .cons (.for_ (.nm 7) (.slc (.var 5) (.part (.int 1)) .nopart) (.cons (.asgF 6 (.call 21 (.cons (.var 3) (.cons (.var 6) (.cons (.var 7) .nil))))) .nil)) u_12
def u_10 : S := .cons (.asgF 6 (.idx (.var 5) (.int 0))) u_11
def u_9 : S := .cons (.iff (.or (.cmp .ne (.call 8 (.cons (.var 3) (.cons (.var 4) (.cons (.var 13) .nil)))) (.var 13)) (.cmp .ne (.call 8 (.cons (.var 3) (.cons (.var 13) (.cons (.var 4) .nil)))) (.var 13))) (.cons (.ret (.bl false)) .nil) .nil) u_10
def u_8 : S := .cons (.for_ (.tp [13, 7]) (.zip (.var 5) (.bin .add (.slc (.var 5) (.part (.int 1)) .nopart) (.slc (.var 5) .nopart (.part (.int 1))))) (.cons (.asgF 14 (.callK 8 [2, 1, 0] (.cons (.var 7) (.cons (.var 13) (.cons (.var 3) .nil))))) (.cons (.iff (.or (.cmp .ne (.var 14) (.call 21 (.cons (.var 3) (.cons (.var 13) (.cons (.var 7) .nil))))) (.not (.isk .istup (.var 14)))) (.cons (.ret (.bl false)) .nil) .nil) (.cons (.iff (.cmp .ne (.comp (.nm 16) (.call 17 (.cons (.var 3) .nil)) (.cmp .ne (.call 16 (.cons (.var 14) (.cons (.var 16) .nil))) (.call 20 (.cons (.var 13) (.cons (.var 7) (.cons (.var 16) .nil))))) (.int 1) [("left", 16)]) (.lst .nil)) (.cons (.ret (.bl false)) .nil) .nil) .nil)))) u_9
def u_7 : S := .cons (.asgF 5 (.bin .add (.lst (.cons (.var 13) (.cons (.var 7) .nil))) (.comp (.nm 15) (.rng1 (.call 0 (.cons (.var 1) (.cons (.int 39) .nil)))) .yes (.call 19 (.cons (.var 1) (.cons (.var 3) .nil))) [("go", 15)]))) u_8
def u_6 : S := .cons (.asgF 4 (.call 15 (.cons (.var 3) (.cons (.lst .nil) .nil)))) u_7
def u_5 : S := .cons (.iff (.cmp .ne (.call 8 (.cons (.var 3) (.cons (.var 13) (.cons (.var 7) .nil)))) (.call 15 (.cons (.var 3) (.cons (.bin .add (.var 11) (.var 12)) .nil)))) (.cons (.ret (.bl false)) .nil) .nil) u_6
def u_4 : S := .cons (.asgT [13, 7] (.tup (.cons (.call 15 (.cons (.var 3) (.cons (.var 11) .nil))) (.cons (.call 15 (.cons (.var 3) (.cons (.var 12) .nil))) .nil)))) u_5
def u_3 : S := .cons (.frz 12) u_4
def u_2 : S := .cons (.frz 11) u_3
def u_1 : S := .cons (.par [11, 12] (.cons (.call 12 (.cons (.var 1) (.cons (.var 3) (.cons (.int 30) .nil)))) (.cons (.call 12 (.cons (.var 1) (.cons (.var 3) (.cons (.int 30) .nil)))) .nil))) u_2
def u_0 : S := .cons (.asgF 3 (.call 10 (.cons (.var 1) .nil))) u_1
def tL_1 : S := .cons (.ret (.bl true)) .nil
def tL_0 : S := .cons (.for_ (.nm 2) (.rng1 (.int 3)) (.cons (.asgF 3 (.call 10 (.cons (.var 1) .nil))) (.cons (.par [11, 12] (.cons (.call 12 (.cons (.var 1) (.cons (.var 3) (.cons (.int 30) .nil)))) (.cons (.call 12 (.cons (.var 1) (.cons (.var 3) (.cons (.int 30) .nil)))) .nil))) (.cons (.frz 11) (.cons (.frz 12) (.cons (.asgT [13, 7] (.tup (.cons (.call 15 (.cons (.var 3) (.cons (.var 11) .nil))) (.cons (.call 15 (.cons (.var 3) (.cons (.var 12) .nil))) .nil)))) (.cons (.iff (.cmp .ne (.call 8 (.cons (.var 3) (.cons (.var 13) (.cons (.var 7) .nil)))) (.call 15 (.cons (.var 3) (.cons (.bin .add (.var 11) (.var 12)) .nil)))) (.cons (.ret (.bl false)) .nil) .nil) (.cons (.asgF 4 (.call 15 (.cons (.var 3) (.cons (.lst .nil) .nil)))) (.cons (.asgF 5 (.bin .add (.lst (.cons (.var 13) (.cons (.var 7) .nil))) (.comp (.nm 15) (.rng1 (.call 0 (.cons (.var 1) (.cons (.int 39) .nil)))) .yes (.call 19 (.cons (.var 1) (.cons (.var 3) .nil))) [("go", 15)]))) (.cons (.for_ (.tp [13, 7]) (.zip (.var 5) (.bin .add (.slc (.var 5) (.part (.int 1)) .nopart) (.slc (.var 5) .nopart (.part (.int 1))))) (.cons (.asgF 14 (.callK 8 [2, 1, 0] (.cons (.var 7) (.cons (.var 13) (.cons (.var 3) .nil))))) (.cons (.iff (.or (.cmp .ne (.var 14) (.call 21 (.cons (.var 3) (.cons (.var 13) (.cons (.var 7) .nil))))) (.not (.isk .istup (.var 14)))) (.cons (.ret (.bl false)) .nil) .nil) (.cons (.iff (.cmp .ne (.comp (.nm 16) (.call 17 (.cons (.var 3) .nil)) (.cmp .ne (.call 16 (.cons (.var 14) (.cons (.var 16) .nil))) (.call 20 (.cons (.var 13) (.cons (.var 7) (.cons (.var 16) .nil))))) (.int 1) [("left", 16)]) (.lst .nil)) (.cons (.ret (.bl false)) .nil) .nil) .nil)))) (.cons (.iff (.or (.cmp .ne (.call 8 (.cons (.var 3) (.cons (.var 4) (.cons (.var 13) .nil)))) (.var 13)) (.cmp .ne (.call 8 (.cons (.var 3) (.cons (.var 13) (.cons (.var 4) .nil)))) (.var 13))) (.cons (.ret (.bl false)) .nil) .nil) (.cons (.asgF 6 (.idx (.var 5) (.int 0))) (.cons (.for_ (.nm 7) (.slc (.var 5) (.part (.int 1)) .nopart) (.cons (.asgF 6 (.call 21 (.cons (.var 3) (.cons (.var 6) (.cons (.var 7) .nil))))) .nil)) (.cons (.iff (.cmp .ne (.call 22 (.cons (.var 3) (.cons (.var 5) (.cons (.var 1) .nil)))) (.var 6)) (.cons (.ret (.bl false)) .nil) .nil) (.cons (.asgF 8 (.call 9 (.cons (.var 1) (.cons (.lst (.cons .non (.cons (.blt .list (.cons (.var 13) .nil)) (.cons (.slc (.var 13) .nopart (.part (.int 4))) (.cons (.bin .add (.var 13) (.tup (.cons (.int 0) .nil))) (.cons (.bin .add (.tup (.cons (.idx (.var 13) (.int 0)) (.cons (.bin .add (.idx (.var 13) (.int 2)) (.int 1)) .nil))) (.slc (.var 13) (.part (.int 2)) .nopart)) .nil)))))) .nil)))) (.cons (.asgF 9 (.call 18 (.cons (.var 1) .nil))) (.cons (.lams 10 0) (.cons (.iff (.not (.errs 10 0 ["pot", "stretch", "stretch"] (.cons (.must (.isx 5 3 (.caught 5 (.call 8 (.cons (.var 9) (.cons .non (.cons .non .nil))))))) (.cons (.must (.isx 5 4 (.caught 5 (.call 8 (.cons (.var 3) (.cons (.var 8) (.cons .non .nil))))))) (.cons (.must (.isx 5 4 (.caught 5 (.call 8 (.cons (.var 3) (.cons (.var 13) (.cons (.var 8) .nil))))))) .nil))) (.lst (.cons (.str "pot") (.cons (.str "stretch") (.cons (.str "stretch") .nil)))))) (.cons (.ret (.bl false)) .nil) .nil) .nil)))))))))))))))))) tL_1
theorem bodyL : dL.body = tL_0 := rfl
def Inv (ns : List Int) (r : PV.Env) : Prop := ∃ x2 x3 x4 x5 x6 x7 x8 x9 x10 x11 x12 x13 x14 x15 x16, r = [.val (.scr ns), .val .sta, x2, x3, x4, x5, x6, x7, x8, x9, x10, x11, x12, x13, x14, x15, x16]
section
variable {k : Nat → List D → T D} {ns : List Int} {f c : Int} {x2 x3 x4 x5 x6 x7 x8 x9 x10 x11 x12 x13 x14 x15 x16 : Sl}
/-! the errors -/
theorem w16 {np wr : D} {s : St} (fn : fz np = .ret np) (fw : fz wr = .ret wr) (e1 : k 8 [np, .non, .non] = .err 3) (e2 : k 8 [potD f c, wr, .non] = .err 4) (e3 : k 8 [potD f c, stD s, wr] = .err 4) : Yes (goP (Inv ns) fun _ => False) (ex k WH u_15 [.val (.scr ns), .val .sta, x2, .val (potD f c), x4, x5, x6, x7, .val wr, .val np, x10, x11, x12, .val (stD s), x14, x15, x16]) := by
  have c3 : catchT 5 (.err 3 : T D) = .ret (.exc 3) := if_pos (by decide)
  have c4 : catchT 5 (.err 4 : T D) = .ret (.exc 4) := if_pos (by decide)
  have i3 : isxT 5 3 (.exc 3) = .ret (.bl true) := rfl
  have i4 : isxT 5 4 (.exc 4) = .ret (.bl true) := rfl
  have fa : ∀ (t : Nat) (y0 y1 y2 y3 y4 y5 y6 y7 y8 y9 y11 y12 y13 y14 y15 y16 : Sl), fnsAt [y0, y1, y2, y3, y4, y5, y6, y7, y8, y9, .fns 0, y11, y12, y13, y14, y15, y16] 10 0 = true := fun _ _ _ _ _ _ _ _ _ _ _ _ _ _ _ _ _ => rfl
  have is : isStrs ["pot", "stretch", "stretch"] (.new [.str "pot", .str "stretch", .str "stretch"]) = true := by decide +kernel
  unfold u_15
  simp only [e_non, e_bl, e_int, e_str, e_var, e_con, e_bin, e_neg, e_cmp, e_chain, e_chain3, e_lrng, e_and, e_or, e_not, e_ite, e_tup, e_lst, e_idx, e_slc, e_call, e_callK, e_blt, e_isk, e_caught, e_isx, e_must, e_errs, q_must, e_op0, e_op1, e_callM, b_op1, b_callM, i_callK, i_op1, o_emp, o_revT, b_var, b_cmp, b_chain, b_chain3, b_and, b_or, b_not, b_yes, b_call, b_callK, b_blt, b_isx, b_errs, b_isk, a_nil, a_cons, r_nil, r_cons, o_nopart, o_part, i_rng1, i_rng2, i_zip, i_enum, i_cap, i_var, i_blt, i_call, i_tup, i_lst, i_idx, i_slc, q_add, q_sub, q_neg, q_lt, q_le, q_gt, q_ge, q_eqI, q_neI, q_isNN, q_isNT, q_isNI, q_isNL, q_isBB, q_isNB, q_isNS, q_isnNN, q_isnNT, q_isnNI, q_isnNL, q_andT, q_andF, q_orT, q_orF, q_not, q_toB, q_part, q_fzI, q_fzB, q_fzS, q_fzN, q_fzT, q_fzL, q_fzW, q_fzSt, q_fzSc, s_nil, s_cons, k_nx, k_rt, k_bk, k_ct, s_asg, s_asgF, s_asgT, k_asg, s_par, s_expr, s_iff, s_retN, s_raise, s_brk, s_cont, s_lams, s_pass, s_frz, k_frzO, k_frzV, s_retV, k_retO, k_retV, s_ret_non, s_ret_bl, s_ret_int, s_ret_str, s_ret_con, s_ret_bin, s_ret_neg, s_ret_cmp, s_ret_chain, s_ret_chain3, s_ret_lrng, s_ret_and, s_ret_or, s_ret_not, s_ret_ite, s_ret_tup, s_ret_lst, s_ret_idx, s_ret_slc, s_ret_call, s_ret_callK, s_ret_op0, s_ret_op1, s_ret_callM, s_ret_blt, s_ret_isx, s_ret_errs, s_ret_isk, s_ret_comp, s_app, k_runR, k_runN, for_nil, k_forN, k_forC, k_forB, k_forR, g_nm, g_tp, o_some, noErr_ret, Yes, retK, ret_bind, err_bind, bad_bind, draw_bind, getV, slOf, slO, setAll, parT, List.length_cons, List.length_nil, List.map_cons, List.map_nil, List.getElem?_cons_zero, List.getElem?_cons_succ, List.set_cons_zero, List.set_cons_succ, List.cons_append, List.nil_append, List.replicate_succ, List.replicate_zero]
  unfold u_16
  simp only [e_non, e_bl, e_int, e_str, e_var, e_con, e_bin, e_neg, e_cmp, e_chain, e_chain3, e_lrng, e_and, e_or, e_not, e_ite, e_tup, e_lst, e_idx, e_slc, e_call, e_callK, e_blt, e_isk, e_caught, e_isx, e_must, e_errs, q_must, e_op0, e_op1, e_callM, b_op1, b_callM, i_callK, i_op1, o_emp, o_revT, b_var, b_cmp, b_chain, b_chain3, b_and, b_or, b_not, b_yes, b_call, b_callK, b_blt, b_isx, b_errs, b_isk, a_nil, a_cons, r_nil, r_cons, o_nopart, o_part, i_rng1, i_rng2, i_zip, i_enum, i_cap, i_var, i_blt, i_call, i_tup, i_lst, i_idx, i_slc, q_add, q_sub, q_neg, q_lt, q_le, q_gt, q_ge, q_eqI, q_neI, q_isNN, q_isNT, q_isNI, q_isNL, q_isBB, q_isNB, q_isNS, q_isnNN, q_isnNT, q_isnNI, q_isnNL, q_andT, q_andF, q_orT, q_orF, q_not, q_toB, q_part, q_fzI, q_fzB, q_fzS, q_fzN, q_fzT, q_fzL, q_fzW, q_fzSt, q_fzSc, s_nil, s_cons, k_nx, k_rt, k_bk, k_ct, s_asg, s_asgF, s_asgT, k_asg, s_par, s_expr, s_iff, s_retN, s_raise, s_brk, s_cont, s_lams, s_pass, s_frz, k_frzO, k_frzV, s_retV, k_retO, k_retV, s_ret_non, s_ret_bl, s_ret_int, s_ret_str, s_ret_con, s_ret_bin, s_ret_neg, s_ret_cmp, s_ret_chain, s_ret_chain3, s_ret_lrng, s_ret_and, s_ret_or, s_ret_not, s_ret_ite, s_ret_tup, s_ret_lst, s_ret_idx, s_ret_slc, s_ret_call, s_ret_callK, s_ret_op0, s_ret_op1, s_ret_callM, s_ret_blt, s_ret_isx, s_ret_errs, s_ret_isk, s_ret_comp, s_app, k_runR, k_runN, for_nil, k_forN, k_forC, k_forB, k_forR, g_nm, g_tp, o_some, noErr_ret, Yes, retK, ret_bind, err_bind, bad_bind, draw_bind, getV, slOf, slO, setAll, parT, List.length_cons, List.length_nil, List.map_cons, List.map_nil, List.getElem?_cons_zero, List.getElem?_cons_succ, List.set_cons_zero, List.set_cons_succ, List.cons_append, List.nil_append, List.replicate_succ, List.replicate_zero, fa 0, lt3, is, fn, fw, fz_pot, fz_st, e1, e2, e3, c3, c4, i3, i4, if_true, Bool.not_true, Bool.false_eq_true, if_false]
  exact yes_ret ⟨_, _, _, _, _, _, _, _, _, _, _, _, _, _, _, rfl⟩
theorem w14 {wr : D} {s : St} (e18 : Yes (fun d => d ∈ noPots) (k 18 [.sta])) (H : ∀ np ∈ noPots, Yes (goP (Inv ns) fun _ => False) (ex k WH u_15 [.val (.scr ns), .val .sta, x2, .val (potD f c), x4, x5, x6, x7, .val wr, .val np, x10, x11, x12, .val (stD s), x14, x15, x16])) : Yes (goP (Inv ns) fun _ => False) (ex k WH u_14 [.val (.scr ns), .val .sta, x2, .val (potD f c), x4, x5, x6, x7, .val wr, x9, x10, x11, x12, .val (stD s), x14, x15, x16]) := by
  unfold u_14
  simp only [e_non, e_bl, e_int, e_str, e_var, e_con, e_bin, e_neg, e_cmp, e_chain, e_chain3, e_lrng, e_and, e_or, e_not, e_ite, e_tup, e_lst, e_idx, e_slc, e_call, e_callK, e_blt, e_isk, e_caught, e_isx, e_must, e_errs, q_must, e_op0, e_op1, e_callM, b_op1, b_callM, i_callK, i_op1, o_emp, o_revT, b_var, b_cmp, b_chain, b_chain3, b_and, b_or, b_not, b_yes, b_call, b_callK, b_blt, b_isx, b_errs, b_isk, a_nil, a_cons, r_nil, r_cons, o_nopart, o_part, i_rng1, i_rng2, i_zip, i_enum, i_cap, i_var, i_blt, i_call, i_tup, i_lst, i_idx, i_slc, q_add, q_sub, q_neg, q_lt, q_le, q_gt, q_ge, q_eqI, q_neI, q_isNN, q_isNT, q_isNI, q_isNL, q_isBB, q_isNB, q_isNS, q_isnNN, q_isnNT, q_isnNI, q_isnNL, q_andT, q_andF, q_orT, q_orF, q_not, q_toB, q_part, q_fzI, q_fzB, q_fzS, q_fzN, q_fzT, q_fzL, q_fzW, q_fzSt, q_fzSc, s_nil, s_cons, k_nx, k_rt, k_bk, k_ct, s_asg, s_asgF, s_asgT, k_asg, s_par, s_expr, s_iff, s_retN, s_raise, s_brk, s_cont, s_lams, s_pass, s_frz, k_frzO, k_frzV, s_retV, k_retO, k_retV, s_ret_non, s_ret_bl, s_ret_int, s_ret_str, s_ret_con, s_ret_bin, s_ret_neg, s_ret_cmp, s_ret_chain, s_ret_chain3, s_ret_lrng, s_ret_and, s_ret_or, s_ret_not, s_ret_ite, s_ret_tup, s_ret_lst, s_ret_idx, s_ret_slc, s_ret_call, s_ret_callK, s_ret_op0, s_ret_op1, s_ret_callM, s_ret_blt, s_ret_isx, s_ret_errs, s_ret_isk, s_ret_comp, s_app, k_runR, k_runN, for_nil, k_forN, k_forC, k_forB, k_forR, g_nm, g_tp, o_some, noErr_ret, Yes, retK, ret_bind, err_bind, bad_bind, draw_bind, getV, slOf, slO, setAll, parT, List.length_cons, List.length_nil, List.map_cons, List.map_nil, List.getElem?_cons_zero, List.getElem?_cons_succ, List.set_cons_zero, List.set_cons_succ, List.cons_append, List.nil_append, List.replicate_succ, List.replicate_zero, bind_assoc']
  refine yes_then e18 fun d hd => ?_
  have fd := kd_fz (np_kd d hd)
  simp only [e_non, e_bl, e_int, e_str, e_var, e_con, e_bin, e_neg, e_cmp, e_chain, e_chain3, e_lrng, e_and, e_or, e_not, e_ite, e_tup, e_lst, e_idx, e_slc, e_call, e_callK, e_blt, e_isk, e_caught, e_isx, e_must, e_errs, q_must, e_op0, e_op1, e_callM, b_op1, b_callM, i_callK, i_op1, o_emp, o_revT, b_var, b_cmp, b_chain, b_chain3, b_and, b_or, b_not, b_yes, b_call, b_callK, b_blt, b_isx, b_errs, b_isk, a_nil, a_cons, r_nil, r_cons, o_nopart, o_part, i_rng1, i_rng2, i_zip, i_enum, i_cap, i_var, i_blt, i_call, i_tup, i_lst, i_idx, i_slc, q_add, q_sub, q_neg, q_lt, q_le, q_gt, q_ge, q_eqI, q_neI, q_isNN, q_isNT, q_isNI, q_isNL, q_isBB, q_isNB, q_isNS, q_isnNN, q_isnNT, q_isnNI, q_isnNL, q_andT, q_andF, q_orT, q_orF, q_not, q_toB, q_part, q_fzI, q_fzB, q_fzS, q_fzN, q_fzT, q_fzL, q_fzW, q_fzSt, q_fzSc, s_nil, s_cons, k_nx, k_rt, k_bk, k_ct, s_asg, s_asgF, s_asgT, k_asg, s_par, s_expr, s_iff, s_retN, s_raise, s_brk, s_cont, s_lams, s_pass, s_frz, k_frzO, k_frzV, s_retV, k_retO, k_retV, s_ret_non, s_ret_bl, s_ret_int, s_ret_str, s_ret_con, s_ret_bin, s_ret_neg, s_ret_cmp, s_ret_chain, s_ret_chain3, s_ret_lrng, s_ret_and, s_ret_or, s_ret_not, s_ret_ite, s_ret_tup, s_ret_lst, s_ret_idx, s_ret_slc, s_ret_call, s_ret_callK, s_ret_op0, s_ret_op1, s_ret_callM, s_ret_blt, s_ret_isx, s_ret_errs, s_ret_isk, s_ret_comp, s_app, k_runR, k_runN, for_nil, k_forN, k_forC, k_forB, k_forR, g_nm, g_tp, o_some, noErr_ret, Yes, retK, ret_bind, err_bind, bad_bind, draw_bind, getV, slOf, slO, setAll, parT, List.length_cons, List.length_nil, List.map_cons, List.map_nil, List.getElem?_cons_zero, List.getElem?_cons_succ, List.set_cons_zero, List.set_cons_succ, List.cons_append, List.nil_append, List.replicate_succ, List.replicate_zero, fd]
  exact H d hd
theorem w13i {e a b l u : Int} : (evs k (.call 9 (.cons (.var 1) (.cons (.lst (.cons .non (.cons (.blt .list (.cons (.var 13) .nil)) (.cons (.slc (.var 13) .nopart (.part (.int 4))) (.cons (.bin .add (.var 13) (.tup (.cons (.int 0) .nil))) (.cons (.bin .add (.tup (.cons (.idx (.var 13) (.int 0)) (.cons (.bin .add (.idx (.var 13) (.int 2)) (.int 1)) .nil))) (.slc (.var 13) (.part (.int 2)) .nopart)) .nil)))))) .nil)))).E [.val (.scr ns), .val .sta, x2, .val (potD f c), x4, x5, x6, x7, x8, x9, x10, x11, x12, .val (.tup [.int e, .int a, .int b, .int l, .int u]), x14, x15, x16] = k 9 [.sta, .lst [.non, .lst [.int e, .int a, .int b, .int l, .int u], .tup [.int e, .int a, .int b, .int l], .tup [.int e, .int a, .int b, .int l, .int u, .int 0], .tup [.int e, .int (b + 1), .int b, .int l, .int u]]] := by
  have l1 : bltT .list [.tup [.int e, .int a, .int b, .int l, .int u]] = .ret (.new [.int e, .int a, .int b, .int l, .int u]) := rfl
  have s1 : slcT (.tup [.int e, .int a, .int b, .int l, .int u]) none (some 4) = .ret (.tup [.int e, .int a, .int b, .int l]) := rfl
  have s2 : slcT (.tup [.int e, .int a, .int b, .int l, .int u]) (some 2) none = .ret (.tup [.int b, .int l, .int u]) := rfl
  have a1 : binT .add (.tup [.int e, .int a, .int b, .int l, .int u]) (.tup [.int 0]) = .ret (.tup [.int e, .int a, .int b, .int l, .int u, .int 0]) := rfl
  have a2 : binT .add (.tup [.int e, .int (b + 1)]) (.tup [.int b, .int l, .int u]) = .ret (.tup [.int e, .int (b + 1), .int b, .int l, .int u]) := rfl
  have l5 : ∀ a b c d e : D, lenT [a, b, c, d, e] (.new [a, b, c, d, e]) = .ret (.new [a, b, c, d, e]) := fun _ _ _ _ _ => rfl
  simp only [e_non, e_bl, e_int, e_str, e_var, e_con, e_bin, e_neg, e_cmp, e_chain, e_chain3, e_lrng, e_and, e_or, e_not, e_ite, e_tup, e_lst, e_idx, e_slc, e_call, e_callK, e_blt, e_isk, e_caught, e_isx, e_must, e_errs, q_must, e_op0, e_op1, e_callM, b_op1, b_callM, i_callK, i_op1, o_emp, o_revT, b_var, b_cmp, b_chain, b_chain3, b_and, b_or, b_not, b_yes, b_call, b_callK, b_blt, b_isx, b_errs, b_isk, a_nil, a_cons, r_nil, r_cons, o_nopart, o_part, i_rng1, i_rng2, i_zip, i_enum, i_cap, i_var, i_blt, i_call, i_tup, i_lst, i_idx, i_slc, q_add, q_sub, q_neg, q_lt, q_le, q_gt, q_ge, q_eqI, q_neI, q_isNN, q_isNT, q_isNI, q_isNL, q_isBB, q_isNB, q_isNS, q_isnNN, q_isnNT, q_isnNI, q_isnNL, q_andT, q_andF, q_orT, q_orF, q_not, q_toB, q_part, q_fzI, q_fzB, q_fzS, q_fzN, q_fzT, q_fzL, q_fzW, q_fzSt, q_fzSc, s_nil, s_cons, k_nx, k_rt, k_bk, k_ct, s_asg, s_asgF, s_asgT, k_asg, s_par, s_expr, s_iff, s_retN, s_raise, s_brk, s_cont, s_lams, s_pass, s_frz, k_frzO, k_frzV, s_retV, k_retO, k_retV, s_ret_non, s_ret_bl, s_ret_int, s_ret_str, s_ret_con, s_ret_bin, s_ret_neg, s_ret_cmp, s_ret_chain, s_ret_chain3, s_ret_lrng, s_ret_and, s_ret_or, s_ret_not, s_ret_ite, s_ret_tup, s_ret_lst, s_ret_idx, s_ret_slc, s_ret_call, s_ret_callK, s_ret_op0, s_ret_op1, s_ret_callM, s_ret_blt, s_ret_isx, s_ret_errs, s_ret_isk, s_ret_comp, s_app, k_runR, k_runN, for_nil, k_forN, k_forC, k_forB, k_forR, g_nm, g_tp, o_some, noErr_ret, Yes, retK, ret_bind, err_bind, bad_bind, draw_bind, getV, slOf, slO, setAll, parT, List.length_cons, List.length_nil, List.map_cons, List.map_nil, List.getElem?_cons_zero, List.getElem?_cons_succ, List.set_cons_zero, List.set_cons_succ, List.cons_append, List.nil_append, List.replicate_succ, List.replicate_zero, l1, s1, s2, a1, a2, ix50, ix52, t1, t2, l5]
theorem w13 {s : St} (o : Ok f c s) (e9 : Pk k) (H : ∀ wr, NoSt f c wr → Yes (goP (Inv ns) fun _ => False) (ex k WH u_14 [.val (.scr ns), .val .sta, x2, .val (potD f c), x4, x5, x6, x7, .val wr, x9, x10, x11, x12, .val (stD s), x14, x15, x16])) : Yes (goP (Inv ns) fun _ => False) (ex k WH u_13 [.val (.scr ns), .val .sta, x2, .val (potD f c), x4, x5, x6, x7, x8, x9, x10, x11, x12, .val (stD s), x14, x15, x16]) := by
  have ei := w13i (k := k) (e := s.e) (a := s.a) (b := s.b) (l := s.l) (u := s.u) (ns := ns) (f := f) (c := c) (x2 := x2) (x4 := x4) (x5 := x5) (x6 := x6) (x7 := x7) (x8 := x8) (x9 := x9) (x10 := x10) (x11 := x11) (x12 := x12) (x14 := x14) (x15 := x15) (x16 := x16)
  have kk : ∀ d ∈ [D.non, .lst [.int s.e, .int s.a, .int s.b, .int s.l, .int s.u], .tup [.int s.e, .int s.a, .int s.b, .int s.l], .tup [.int s.e, .int s.a, .int s.b, .int s.l, .int s.u, .int 0], .tup [.int s.e, .int (s.b + 1), .int s.b, .int s.l, .int s.u]], NoSt f c d := by
    intro d hd
    simp only [List.mem_cons, List.not_mem_nil, or_false] at hd
    rcases hd with rfl | rfl | rfl | rfl | rfl
    · exact .non
    · exact .lst _
    · exact .four s
    · exact .six s
    · exact .back s (by have := o.fa; have := o.ab; omega)
  have kk2 : ∀ d, NoSt f c d → kd d = true := fun d h => by cases h <;> rfl
  unfold u_13
  unfold stD
  simp only [s_cons, s_asgF, ei, bind_assoc']
  refine yes_then (e9 _ (by show 0 < 5; decide) (by show 5 < 1000; decide) fun d hd => kk2 d (kk d hd)) fun d hd => ?_
  have fd := (kk d hd).fz
  simp only [e_non, e_bl, e_int, e_str, e_var, e_con, e_bin, e_neg, e_cmp, e_chain, e_chain3, e_lrng, e_and, e_or, e_not, e_ite, e_tup, e_lst, e_idx, e_slc, e_call, e_callK, e_blt, e_isk, e_caught, e_isx, e_must, e_errs, q_must, e_op0, e_op1, e_callM, b_op1, b_callM, i_callK, i_op1, o_emp, o_revT, b_var, b_cmp, b_chain, b_chain3, b_and, b_or, b_not, b_yes, b_call, b_callK, b_blt, b_isx, b_errs, b_isk, a_nil, a_cons, r_nil, r_cons, o_nopart, o_part, i_rng1, i_rng2, i_zip, i_enum, i_cap, i_var, i_blt, i_call, i_tup, i_lst, i_idx, i_slc, q_add, q_sub, q_neg, q_lt, q_le, q_gt, q_ge, q_eqI, q_neI, q_isNN, q_isNT, q_isNI, q_isNL, q_isBB, q_isNB, q_isNS, q_isnNN, q_isnNT, q_isnNI, q_isnNL, q_andT, q_andF, q_orT, q_orF, q_not, q_toB, q_part, q_fzI, q_fzB, q_fzS, q_fzN, q_fzT, q_fzL, q_fzW, q_fzSt, q_fzSc, s_nil, s_cons, k_nx, k_rt, k_bk, k_ct, s_asg, s_asgF, s_asgT, k_asg, s_par, s_expr, s_iff, s_retN, s_raise, s_brk, s_cont, s_lams, s_pass, s_frz, k_frzO, k_frzV, s_retV, k_retO, k_retV, s_ret_non, s_ret_bl, s_ret_int, s_ret_str, s_ret_con, s_ret_bin, s_ret_neg, s_ret_cmp, s_ret_chain, s_ret_chain3, s_ret_lrng, s_ret_and, s_ret_or, s_ret_not, s_ret_ite, s_ret_tup, s_ret_lst, s_ret_idx, s_ret_slc, s_ret_call, s_ret_callK, s_ret_op0, s_ret_op1, s_ret_callM, s_ret_blt, s_ret_isx, s_ret_errs, s_ret_isk, s_ret_comp, s_app, k_runR, k_runN, for_nil, k_forN, k_forC, k_forB, k_forR, g_nm, g_tp, o_some, noErr_ret, Yes, retK, ret_bind, err_bind, bad_bind, draw_bind, getV, slOf, slO, setAll, parT, List.length_cons, List.length_nil, List.map_cons, List.map_nil, List.getElem?_cons_zero, List.getElem?_cons_succ, List.set_cons_zero, List.set_cons_succ, List.cons_append, List.nil_append, List.replicate_succ, List.replicate_zero, fd]
  exact H d (kk d hd)
theorem w12 {due : D} {R : List D} {s : St} (e22 : Yes (fun d => d = due) (k 22 [potD f c, .lst R, .sta])) (ne : cmpT .ne due due = .ret false) (H : Yes (goP (Inv ns) fun _ => False) (ex k WH u_13 [.val (.scr ns), .val .sta, x2, .val (potD f c), x4, .val (.lst R), .val due, x7, x8, x9, x10, x11, x12, .val (stD s), x14, x15, x16])) : Yes (goP (Inv ns) fun _ => False) (ex k WH u_12 [.val (.scr ns), .val .sta, x2, .val (potD f c), x4, .val (.lst R), .val due, x7, x8, x9, x10, x11, x12, .val (stD s), x14, x15, x16]) := by
  unfold u_12
  simp only [e_non, e_bl, e_int, e_str, e_var, e_con, e_bin, e_neg, e_cmp, e_chain, e_chain3, e_lrng, e_and, e_or, e_not, e_ite, e_tup, e_lst, e_idx, e_slc, e_call, e_callK, e_blt, e_isk, e_caught, e_isx, e_must, e_errs, q_must, e_op0, e_op1, e_callM, b_op1, b_callM, i_callK, i_op1, o_emp, o_revT, b_var, b_cmp, b_chain, b_chain3, b_and, b_or, b_not, b_yes, b_call, b_callK, b_blt, b_isx, b_errs, b_isk, a_nil, a_cons, r_nil, r_cons, o_nopart, o_part, i_rng1, i_rng2, i_zip, i_enum, i_cap, i_var, i_blt, i_call, i_tup, i_lst, i_idx, i_slc, q_add, q_sub, q_neg, q_lt, q_le, q_gt, q_ge, q_eqI, q_neI, q_isNN, q_isNT, q_isNI, q_isNL, q_isBB, q_isNB, q_isNS, q_isnNN, q_isnNT, q_isnNI, q_isnNL, q_andT, q_andF, q_orT, q_orF, q_not, q_toB, q_part, q_fzI, q_fzB, q_fzS, q_fzN, q_fzT, q_fzL, q_fzW, q_fzSt, q_fzSc, s_nil, s_cons, k_nx, k_rt, k_bk, k_ct, s_asg, s_asgF, s_asgT, k_asg, s_par, s_expr, s_iff, s_retN, s_raise, s_brk, s_cont, s_lams, s_pass, s_frz, k_frzO, k_frzV, s_retV, k_retO, k_retV, s_ret_non, s_ret_bl, s_ret_int, s_ret_str, s_ret_con, s_ret_bin, s_ret_neg, s_ret_cmp, s_ret_chain, s_ret_chain3, s_ret_lrng, s_ret_and, s_ret_or, s_ret_not, s_ret_ite, s_ret_tup, s_ret_lst, s_ret_idx, s_ret_slc, s_ret_call, s_ret_callK, s_ret_op0, s_ret_op1, s_ret_callM, s_ret_blt, s_ret_isx, s_ret_errs, s_ret_isk, s_ret_comp, s_app, k_runR, k_runN, for_nil, k_forN, k_forC, k_forB, k_forR, g_nm, g_tp, o_some, noErr_ret, Yes, retK, ret_bind, err_bind, bad_bind, draw_bind, getV, slOf, slO, setAll, parT, List.length_cons, List.length_nil, List.map_cons, List.map_nil, List.getElem?_cons_zero, List.getElem?_cons_succ, List.set_cons_zero, List.set_cons_succ, List.cons_append, List.nil_append, List.replicate_succ, List.replicate_zero, fz_pot, bind_assoc']
  refine yes_then e22 fun d hd => ?_
  subst hd
  simp only [e_non, e_bl, e_int, e_str, e_var, e_con, e_bin, e_neg, e_cmp, e_chain, e_chain3, e_lrng, e_and, e_or, e_not, e_ite, e_tup, e_lst, e_idx, e_slc, e_call, e_callK, e_blt, e_isk, e_caught, e_isx, e_must, e_errs, q_must, e_op0, e_op1, e_callM, b_op1, b_callM, i_callK, i_op1, o_emp, o_revT, b_var, b_cmp, b_chain, b_chain3, b_and, b_or, b_not, b_yes, b_call, b_callK, b_blt, b_isx, b_errs, b_isk, a_nil, a_cons, r_nil, r_cons, o_nopart, o_part, i_rng1, i_rng2, i_zip, i_enum, i_cap, i_var, i_blt, i_call, i_tup, i_lst, i_idx, i_slc, q_add, q_sub, q_neg, q_lt, q_le, q_gt, q_ge, q_eqI, q_neI, q_isNN, q_isNT, q_isNI, q_isNL, q_isBB, q_isNB, q_isNS, q_isnNN, q_isnNT, q_isnNI, q_isnNL, q_andT, q_andF, q_orT, q_orF, q_not, q_toB, q_part, q_fzI, q_fzB, q_fzS, q_fzN, q_fzT, q_fzL, q_fzW, q_fzSt, q_fzSc, s_nil, s_cons, k_nx, k_rt, k_bk, k_ct, s_asg, s_asgF, s_asgT, k_asg, s_par, s_expr, s_iff, s_retN, s_raise, s_brk, s_cont, s_lams, s_pass, s_frz, k_frzO, k_frzV, s_retV, k_retO, k_retV, s_ret_non, s_ret_bl, s_ret_int, s_ret_str, s_ret_con, s_ret_bin, s_ret_neg, s_ret_cmp, s_ret_chain, s_ret_chain3, s_ret_lrng, s_ret_and, s_ret_or, s_ret_not, s_ret_ite, s_ret_tup, s_ret_lst, s_ret_idx, s_ret_slc, s_ret_call, s_ret_callK, s_ret_op0, s_ret_op1, s_ret_callM, s_ret_blt, s_ret_isx, s_ret_errs, s_ret_isk, s_ret_comp, s_app, k_runR, k_runN, for_nil, k_forN, k_forC, k_forB, k_forR, g_nm, g_tp, o_some, noErr_ret, Yes, retK, ret_bind, err_bind, bad_bind, draw_bind, getV, slOf, slO, setAll, parT, List.length_cons, List.length_nil, List.map_cons, List.map_nil, List.getElem?_cons_zero, List.getElem?_cons_succ, List.set_cons_zero, List.set_cons_succ, List.cons_append, List.nil_append, List.replicate_succ, List.replicate_zero, ne, Bool.false_eq_true, if_false]
  exact H
/-! the row, put together in order -/
def b11 : S := (.cons (.asgF 6 (.call 21 (.cons (.var 3) (.cons (.var 6) (.cons (.var 7) .nil))))) .nil)
theorem step11 {d t z : D} (fd : fz d = .ret d) (ft : fz t = .ret t) (fzz : fz z = .ret z) (e : k 21 [potD f c, d, t] = .ret z) : ex k WH b11 [.val (.scr ns), .val .sta, x2, .val (potD f c), x4, x5, .val d, .val t, x8, x9, x10, x11, x12, x13, x14, x15, x16] = .ret (.nx [.val (.scr ns), .val .sta, x2, .val (potD f c), x4, x5, .val z, .val t, x8, x9, x10, x11, x12, x13, x14, x15, x16]) := by
  unfold b11
  simp only [e_non, e_bl, e_int, e_str, e_var, e_con, e_bin, e_neg, e_cmp, e_chain, e_chain3, e_lrng, e_and, e_or, e_not, e_ite, e_tup, e_lst, e_idx, e_slc, e_call, e_callK, e_blt, e_isk, e_caught, e_isx, e_must, e_errs, q_must, e_op0, e_op1, e_callM, b_op1, b_callM, i_callK, i_op1, o_emp, o_revT, b_var, b_cmp, b_chain, b_chain3, b_and, b_or, b_not, b_yes, b_call, b_callK, b_blt, b_isx, b_errs, b_isk, a_nil, a_cons, r_nil, r_cons, o_nopart, o_part, i_rng1, i_rng2, i_zip, i_enum, i_cap, i_var, i_blt, i_call, i_tup, i_lst, i_idx, i_slc, q_add, q_sub, q_neg, q_lt, q_le, q_gt, q_ge, q_eqI, q_neI, q_isNN, q_isNT, q_isNI, q_isNL, q_isBB, q_isNB, q_isNS, q_isnNN, q_isnNT, q_isnNI, q_isnNL, q_andT, q_andF, q_orT, q_orF, q_not, q_toB, q_part, q_fzI, q_fzB, q_fzS, q_fzN, q_fzT, q_fzL, q_fzW, q_fzSt, q_fzSc, s_nil, s_cons, k_nx, k_rt, k_bk, k_ct, s_asg, s_asgF, s_asgT, k_asg, s_par, s_expr, s_iff, s_retN, s_raise, s_brk, s_cont, s_lams, s_pass, s_frz, k_frzO, k_frzV, s_retV, k_retO, k_retV, s_ret_non, s_ret_bl, s_ret_int, s_ret_str, s_ret_con, s_ret_bin, s_ret_neg, s_ret_cmp, s_ret_chain, s_ret_chain3, s_ret_lrng, s_ret_and, s_ret_or, s_ret_not, s_ret_ite, s_ret_tup, s_ret_lst, s_ret_idx, s_ret_slc, s_ret_call, s_ret_callK, s_ret_op0, s_ret_op1, s_ret_callM, s_ret_blt, s_ret_isx, s_ret_errs, s_ret_isk, s_ret_comp, s_app, k_runR, k_runN, for_nil, k_forN, k_forC, k_forB, k_forR, g_nm, g_tp, o_some, noErr_ret, Yes, retK, ret_bind, err_bind, bad_bind, draw_bind, getV, slOf, slO, setAll, parT, List.length_cons, List.length_nil, List.map_cons, List.map_nil, List.getElem?_cons_zero, List.getElem?_cons_succ, List.set_cons_zero, List.set_cons_succ, List.cons_append, List.nil_append, List.replicate_succ, List.replicate_zero, fz_pot, fd, ft, fzz, e]
theorem loop11 (e : ∀ p q, Ok f c p → Ok f c q → k 21 [potD f c, stD p, stD q] = .ret (stD (lk p q))) : ∀ (l : List St) (d : St) (x7 : Sl), Ok f c d → (∀ t ∈ l, Ok f c t) → ∃ y7, forL (bindTg (.nm 7)) (ex k WH b11) (l.map stD) [.val (.scr ns), .val .sta, x2, .val (potD f c), x4, x5, .val (stD d), x7, x8, x9, x10, x11, x12, x13, x14, x15, x16] = .ret (.nx [.val (.scr ns), .val .sta, x2, .val (potD f c), x4, x5, .val (stD (l.foldl lk d)), y7, x8, x9, x10, x11, x12, x13, x14, x15, x16])
  | [], d, x7, _, _ => ⟨x7, rfl⟩
  | t :: l, d, x7, hd, h => by
    have ht := h t List.mem_cons_self
    obtain ⟨y7, q⟩ := loop11 e l (lk d t) (.val (stD t)) (lk_ok hd ht) fun z hz => h z (List.mem_cons_of_mem _ hz)
    refine ⟨y7, ?_⟩
    have st := step11 (k := k) (ns := ns) (x2 := x2) (x4 := x4) (x5 := x5) (x8 := x8) (x9 := x9) (x10 := x10) (x11 := x11) (x12 := x12) (x13 := x13) (x14 := x14) (x15 := x15) (x16 := x16) fz_st fz_st fz_st (e d t hd ht)
    rw [List.map_cons, for_cons, g_nm, ret_bind]
    simp only [List.length_cons, List.length_nil, List.map_cons, List.map_nil, List.getElem?_cons_zero, List.getElem?_cons_succ, List.set_cons_zero, List.set_cons_succ, List.cons_append, List.nil_append, List.replicate_succ, List.replicate_zero]
    rw [st, ret_bind, k_forN]
    exact q
theorem cut_1 {xs : List D} : cutD xs (some 1) none = xs.drop 1 := by
  unfold cutD
  show (xs.drop (min 1 xs.length)).take (xs.length - min 1 xs.length) = _
  cases xs with
  | nil => rfl
  | cons x xs =>
    rw [show min 1 (x :: xs).length = 1 by rw [List.length_cons]; omega, List.take_of_length_le]
    rw [List.length_drop]
    exact Nat.le_refl _
theorem cut_1t {x : D} {xs : List D} : cutD (x :: xs) none (some 1) = [x] := by
  unfold cutD
  show ((x :: xs).drop 0).take (min 1 (x :: xs).length - 0) = _
  rw [show min 1 (x :: xs).length - 0 = 1 by rw [List.length_cons]; omega]
  rfl
theorem w10 {p : St} {L : List St} {s : St} (op : Ok f c p) (oL : ∀ t ∈ L, Ok f c t) (e : ∀ p q, Ok f c p → Ok f c q → k 21 [potD f c, stD p, stD q] = .ret (stD (lk p q))) (H : ∀ x7 : Sl, Yes (goP (Inv ns) fun _ => False) (ex k WH u_12 [.val (.scr ns), .val .sta, x2, .val (potD f c), x4, .val (.lst (stD p :: L.map stD)), .val (stD (L.foldl lk p)), x7, x8, x9, x10, x11, x12, .val (stD s), x14, x15, x16])) : Yes (goP (Inv ns) fun _ => False) (ex k WH u_10 [.val (.scr ns), .val .sta, x2, .val (potD f c), x4, .val (.lst (stD p :: L.map stD)), x6, x7, x8, x9, x10, x11, x12, .val (stD s), x14, x15, x16]) := by
  have i0 : idxT (.lst (stD p :: L.map stD)) (.int 0) = .ret (stD p) := by
    show ofO (L2.atI (stD p :: L.map stD) ((0 : Nat) : Int)) = _
    rw [idx_nat (x := stD p) rfl]
    rfl
  have s1 : slcT (.lst (stD p :: L.map stD)) (some 1) none = .ret (.new (L.map stD)) := by
    show T.ret (D.new (cutD (stD p :: L.map stD) (some 1) none)) = _
    rw [cut_1]
    rfl
  have fr : frozen (.new (L.map stD)) = some (L.map stD) := rfl
  obtain ⟨y7, q⟩ := loop11 (k := k) (ns := ns) (x2 := x2) (x4 := x4) (x5 := .val (.lst (stD p :: L.map stD))) (x8 := x8) (x9 := x9) (x10 := x10) (x11 := x11) (x12 := x12) (x13 := .val (stD s)) (x14 := x14) (x15 := x15) (x16 := x16) e L p x7 op oL
  unfold b11 at q
  unfold u_10
  simp only [e_non, e_bl, e_int, e_str, e_var, e_con, e_bin, e_neg, e_cmp, e_chain, e_chain3, e_lrng, e_and, e_or, e_not, e_ite, e_tup, e_lst, e_idx, e_slc, e_call, e_callK, e_blt, e_isk, e_caught, e_isx, e_must, e_errs, q_must, e_op0, e_op1, e_callM, b_op1, b_callM, i_callK, i_op1, o_emp, o_revT, b_var, b_cmp, b_chain, b_chain3, b_and, b_or, b_not, b_yes, b_call, b_callK, b_blt, b_isx, b_errs, b_isk, a_nil, a_cons, r_nil, r_cons, o_nopart, o_part, i_rng1, i_rng2, i_zip, i_enum, i_cap, i_var, i_blt, i_call, i_tup, i_lst, i_idx, i_slc, q_add, q_sub, q_neg, q_lt, q_le, q_gt, q_ge, q_eqI, q_neI, q_isNN, q_isNT, q_isNI, q_isNL, q_isBB, q_isNB, q_isNS, q_isnNN, q_isnNT, q_isnNI, q_isnNL, q_andT, q_andF, q_orT, q_orF, q_not, q_toB, q_part, q_fzI, q_fzB, q_fzS, q_fzN, q_fzT, q_fzL, q_fzW, q_fzSt, q_fzSc, s_nil, s_cons, k_nx, k_rt, k_bk, k_ct, s_asg, s_asgF, s_asgT, k_asg, s_par, s_expr, s_iff, s_retN, s_raise, s_brk, s_cont, s_lams, s_pass, s_frz, k_frzO, k_frzV, s_retV, k_retO, k_retV, s_ret_non, s_ret_bl, s_ret_int, s_ret_str, s_ret_con, s_ret_bin, s_ret_neg, s_ret_cmp, s_ret_chain, s_ret_chain3, s_ret_lrng, s_ret_and, s_ret_or, s_ret_not, s_ret_ite, s_ret_tup, s_ret_lst, s_ret_idx, s_ret_slc, s_ret_call, s_ret_callK, s_ret_op0, s_ret_op1, s_ret_callM, s_ret_blt, s_ret_isx, s_ret_errs, s_ret_isk, s_ret_comp, s_app, k_runR, k_runN, for_nil, k_forN, k_forC, k_forB, k_forR, g_nm, g_tp, o_some, noErr_ret, Yes, retK, ret_bind, err_bind, bad_bind, draw_bind, getV, slOf, slO, setAll, parT, List.length_cons, List.length_nil, List.map_cons, List.map_nil, List.getElem?_cons_zero, List.getElem?_cons_succ, List.set_cons_zero, List.set_cons_succ, List.cons_append, List.nil_append, List.replicate_succ, List.replicate_zero, i0, fz_st]
  unfold u_11
  simp only [e_non, e_bl, e_int, e_str, e_var, e_con, e_bin, e_neg, e_cmp, e_chain, e_chain3, e_lrng, e_and, e_or, e_not, e_ite, e_tup, e_lst, e_idx, e_slc, e_call, e_callK, e_blt, e_isk, e_caught, e_isx, e_must, e_errs, q_must, e_op0, e_op1, e_callM, b_op1, b_callM, i_callK, i_op1, o_emp, o_revT, b_var, b_cmp, b_chain, b_chain3, b_and, b_or, b_not, b_yes, b_call, b_callK, b_blt, b_isx, b_errs, b_isk, a_nil, a_cons, r_nil, r_cons, o_nopart, o_part, i_rng1, i_rng2, i_zip, i_enum, i_cap, i_var, i_blt, i_call, i_tup, i_lst, i_idx, i_slc, q_add, q_sub, q_neg, q_lt, q_le, q_gt, q_ge, q_eqI, q_neI, q_isNN, q_isNT, q_isNI, q_isNL, q_isBB, q_isNB, q_isNS, q_isnNN, q_isnNT, q_isnNI, q_isnNL, q_andT, q_andF, q_orT, q_orF, q_not, q_toB, q_part, q_fzI, q_fzB, q_fzS, q_fzN, q_fzT, q_fzL, q_fzW, q_fzSt, q_fzSc, s_nil, s_cons, k_nx, k_rt, k_bk, k_ct, s_asg, s_asgF, s_asgT, k_asg, s_par, s_expr, s_iff, s_retN, s_raise, s_brk, s_cont, s_lams, s_pass, s_frz, k_frzO, k_frzV, s_retV, k_retO, k_retV, s_ret_non, s_ret_bl, s_ret_int, s_ret_str, s_ret_con, s_ret_bin, s_ret_neg, s_ret_cmp, s_ret_chain, s_ret_chain3, s_ret_lrng, s_ret_and, s_ret_or, s_ret_not, s_ret_ite, s_ret_tup, s_ret_lst, s_ret_idx, s_ret_slc, s_ret_call, s_ret_callK, s_ret_op0, s_ret_op1, s_ret_callM, s_ret_blt, s_ret_isx, s_ret_errs, s_ret_isk, s_ret_comp, s_app, k_runR, k_runN, for_nil, k_forN, k_forC, k_forB, k_forR, g_nm, g_tp, o_some, noErr_ret, Yes, retK, ret_bind, err_bind, bad_bind, draw_bind, getV, slOf, slO, setAll, parT, List.length_cons, List.length_nil, List.map_cons, List.map_nil, List.getElem?_cons_zero, List.getElem?_cons_succ, List.set_cons_zero, List.set_cons_succ, List.cons_append, List.nil_append, List.replicate_succ, List.replicate_zero, s_for, s1, fr, q]
  exact H y7
theorem w9 {n0 s : St} {R : D} (e1 : k 8 [potD f c, stD n0, stD s] = .ret (stD s)) (e2 : k 8 [potD f c, stD s, stD n0] = .ret (stD s)) (H : Yes (goP (Inv ns) fun _ => False) (ex k WH u_10 [.val (.scr ns), .val .sta, x2, .val (potD f c), .val (stD n0), .val R, x6, x7, x8, x9, x10, x11, x12, .val (stD s), x14, x15, x16])) : Yes (goP (Inv ns) fun _ => False) (ex k WH u_9 [.val (.scr ns), .val .sta, x2, .val (potD f c), .val (stD n0), .val R, x6, x7, x8, x9, x10, x11, x12, .val (stD s), x14, x15, x16]) := by
  unfold u_9
  simp only [e_non, e_bl, e_int, e_str, e_var, e_con, e_bin, e_neg, e_cmp, e_chain, e_chain3, e_lrng, e_and, e_or, e_not, e_ite, e_tup, e_lst, e_idx, e_slc, e_call, e_callK, e_blt, e_isk, e_caught, e_isx, e_must, e_errs, q_must, e_op0, e_op1, e_callM, b_op1, b_callM, i_callK, i_op1, o_emp, o_revT, b_var, b_cmp, b_chain, b_chain3, b_and, b_or, b_not, b_yes, b_call, b_callK, b_blt, b_isx, b_errs, b_isk, a_nil, a_cons, r_nil, r_cons, o_nopart, o_part, i_rng1, i_rng2, i_zip, i_enum, i_cap, i_var, i_blt, i_call, i_tup, i_lst, i_idx, i_slc, q_add, q_sub, q_neg, q_lt, q_le, q_gt, q_ge, q_eqI, q_neI, q_isNN, q_isNT, q_isNI, q_isNL, q_isBB, q_isNB, q_isNS, q_isnNN, q_isnNT, q_isnNI, q_isnNL, q_andT, q_andF, q_orT, q_orF, q_not, q_toB, q_part, q_fzI, q_fzB, q_fzS, q_fzN, q_fzT, q_fzL, q_fzW, q_fzSt, q_fzSc, s_nil, s_cons, k_nx, k_rt, k_bk, k_ct, s_asg, s_asgF, s_asgT, k_asg, s_par, s_expr, s_iff, s_retN, s_raise, s_brk, s_cont, s_lams, s_pass, s_frz, k_frzO, k_frzV, s_retV, k_retO, k_retV, s_ret_non, s_ret_bl, s_ret_int, s_ret_str, s_ret_con, s_ret_bin, s_ret_neg, s_ret_cmp, s_ret_chain, s_ret_chain3, s_ret_lrng, s_ret_and, s_ret_or, s_ret_not, s_ret_ite, s_ret_tup, s_ret_lst, s_ret_idx, s_ret_slc, s_ret_call, s_ret_callK, s_ret_op0, s_ret_op1, s_ret_callM, s_ret_blt, s_ret_isx, s_ret_errs, s_ret_isk, s_ret_comp, s_app, k_runR, k_runN, for_nil, k_forN, k_forC, k_forB, k_forR, g_nm, g_tp, o_some, noErr_ret, Yes, retK, ret_bind, err_bind, bad_bind, draw_bind, getV, slOf, slO, setAll, parT, List.length_cons, List.length_nil, List.map_cons, List.map_nil, List.getElem?_cons_zero, List.getElem?_cons_succ, List.set_cons_zero, List.set_cons_succ, List.cons_append, List.nil_append, List.replicate_succ, List.replicate_zero, fz_pot, fz_st, e1, e2, ne_st, Bool.false_eq_true, if_false]
  exact H
/-! each two neighbours -/
def b8 : S := (.cons (.asgF 14 (.callK 8 [2, 1, 0] (.cons (.var 7) (.cons (.var 13) (.cons (.var 3) .nil))))) (.cons (.iff (.or (.cmp .ne (.var 14) (.call 21 (.cons (.var 3) (.cons (.var 13) (.cons (.var 7) .nil))))) (.not (.isk .istup (.var 14)))) (.cons (.ret (.bl false)) .nil) .nil) (.cons (.iff (.cmp .ne (.comp (.nm 16) (.call 17 (.cons (.var 3) .nil)) (.cmp .ne (.call 16 (.cons (.var 14) (.cons (.var 16) .nil))) (.call 20 (.cons (.var 13) (.cons (.var 7) (.cons (.var 16) .nil))))) (.int 1) [("left", 16)]) (.lst .nil)) (.cons (.ret (.bl false)) .nil) .nil) .nil)))
theorem comp8 {p q : St} (op : Ok f c p) (oq : Ok f c q) (e16 : ∀ s x, k 16 [stD s, .int x] = .ret (i3D (act s x))) (e20 : ∀ p q x, k 20 [stD p, stD q, .int x] = .ret (i3D (thn3 p q x))) (xs : List Int) (hx : ∀ x ∈ xs, f ≤ x ∧ x ≤ c) :
    compL (compF (.nm 16) [16] (evs k (.cmp .ne (.call 16 (.cons (.var 14) (.cons (.var 16) .nil))) (.call 20 (.cons (.var 13) (.cons (.var 7) (.cons (.var 16) .nil)))))).B (evs k (.int 1)).E [.val (.scr ns), .val .sta, x2, .val (potD f c), x4, x5, x6, .val (stD q), x8, x9, x10, x11, x12, .val (stD p), .val (stD (lk p q)), x15, x16]) (xs.map D.int) = .ret [] := by
  rw [comp_fmapM (f := fun _ => none)]
  · congr 1
    induction xs with
    | nil => rfl
    | cons x xs ih =>
      rw [List.filterMap_cons]
      exact ih fun y hy => hx y (List.mem_cons_of_mem _ hy)
  · intro x hxx
    have h1 := e16 (lk p q) x
    rw [lk_act op oq (hx x hxx).1 (hx x hxx).2] at h1
    have h2 := e20 p q x
    generalize thn3 p q x = w at *
    generalize lk p q = r at *
    simp only [compF_eq, wipeE, e_non, e_bl, e_int, e_str, e_var, e_con, e_bin, e_neg, e_cmp, e_chain, e_chain3, e_lrng, e_and, e_or, e_not, e_ite, e_tup, e_lst, e_idx, e_slc, e_call, e_callK, e_blt, e_isk, e_caught, e_isx, e_must, e_errs, q_must, e_op0, e_op1, e_callM, b_op1, b_callM, i_callK, i_op1, o_emp, o_revT, b_var, b_cmp, b_chain, b_chain3, b_and, b_or, b_not, b_yes, b_call, b_callK, b_blt, b_isx, b_errs, b_isk, a_nil, a_cons, r_nil, r_cons, o_nopart, o_part, i_rng1, i_rng2, i_zip, i_enum, i_cap, i_var, i_blt, i_call, i_tup, i_lst, i_idx, i_slc, q_add, q_sub, q_neg, q_lt, q_le, q_gt, q_ge, q_eqI, q_neI, q_isNN, q_isNT, q_isNI, q_isNL, q_isBB, q_isNB, q_isNS, q_isnNN, q_isnNT, q_isnNI, q_isnNL, q_andT, q_andF, q_orT, q_orF, q_not, q_toB, q_part, q_fzI, q_fzB, q_fzS, q_fzN, q_fzT, q_fzL, q_fzW, q_fzSt, q_fzSc, s_nil, s_cons, k_nx, k_rt, k_bk, k_ct, s_asg, s_asgF, s_asgT, k_asg, s_par, s_expr, s_iff, s_retN, s_raise, s_brk, s_cont, s_lams, s_pass, s_frz, k_frzO, k_frzV, s_retV, k_retO, k_retV, s_ret_non, s_ret_bl, s_ret_int, s_ret_str, s_ret_con, s_ret_bin, s_ret_neg, s_ret_cmp, s_ret_chain, s_ret_chain3, s_ret_lrng, s_ret_and, s_ret_or, s_ret_not, s_ret_ite, s_ret_tup, s_ret_lst, s_ret_idx, s_ret_slc, s_ret_call, s_ret_callK, s_ret_op0, s_ret_op1, s_ret_callM, s_ret_blt, s_ret_isx, s_ret_errs, s_ret_isk, s_ret_comp, s_app, k_runR, k_runN, for_nil, k_forN, k_forC, k_forB, k_forR, g_nm, g_tp, o_some, noErr_ret, Yes, retK, ret_bind, err_bind, bad_bind, draw_bind, getV, slOf, slO, setAll, parT, List.length_cons, List.length_nil, List.map_cons, List.map_nil, List.getElem?_cons_zero, List.getElem?_cons_succ, List.set_cons_zero, List.set_cons_succ, List.cons_append, List.nil_append, List.replicate_succ, List.replicate_zero, fz_st, h1, h2, ne_i3, Bool.false_eq_true, if_false]
theorem step8 {p q : St} (op : Ok f c p) (oq : Ok f c q) (e8 : k 8 [potD f c, stD p, stD q] = .ret (stD (lk p q))) (e21 : k 21 [potD f c, stD p, stD q] = .ret (stD (lk p q))) (e17 : ∃ xs : List Int, (∀ x ∈ xs, f ≤ x ∧ x ≤ c) ∧ k 17 [potD f c] = .ret (.new (xs.map D.int)))
    (e16 : ∀ s x, k 16 [stD s, .int x] = .ret (i3D (act s x))) (e20 : ∀ p q x, k 20 [stD p, stD q, .int x] = .ret (i3D (thn3 p q x))) : ex k WH b8 [.val (.scr ns), .val .sta, x2, .val (potD f c), x4, x5, x6, .val (stD q), x8, x9, x10, x11, x12, .val (stD p), x14, x15, x16] = .ret (.nx [.val (.scr ns), .val .sta, x2, .val (potD f c), x4, x5, x6, .val (stD q), x8, x9, x10, x11, x12, .val (stD p), .val (stD (lk p q)), x15, x16]) := by
  obtain ⟨xs, hx, e17⟩ := e17
  have hc := comp8 (k := k) (ns := ns) (x2 := x2) (x4 := x4) (x5 := x5) (x6 := x6) (x8 := x8) (x9 := x9) (x10 := x10) (x11 := x11) (x12 := x12) (x15 := x15) (x16 := x16) op oq e16 e20 xs hx
  have pm : permD [2, 1, 0] [stD q, stD p, potD f c] = some [potD f c, stD p, stD q] := rfl
  have it : bltT .istup [stD (lk p q)] = .ret (.bl true) := rfl
  have fr : frozen (.new (xs.map D.int)) = some (xs.map D.int) := rfl
  have l0 : lenT [] (.new []) = .ret (.new []) := rfl
  generalize lk p q = r at *
  unfold b8
  simp only [e_non, e_bl, e_int, e_str, e_var, e_con, e_bin, e_neg, e_cmp, e_chain, e_chain3, e_lrng, e_and, e_or, e_not, e_ite, e_tup, e_lst, e_idx, e_slc, e_call, e_callK, e_blt, e_isk, e_caught, e_isx, e_must, e_errs, q_must, e_op0, e_op1, e_callM, b_op1, b_callM, i_callK, i_op1, o_emp, o_revT, b_var, b_cmp, b_chain, b_chain3, b_and, b_or, b_not, b_yes, b_call, b_callK, b_blt, b_isx, b_errs, b_isk, a_nil, a_cons, r_nil, r_cons, o_nopart, o_part, i_rng1, i_rng2, i_zip, i_enum, i_cap, i_var, i_blt, i_call, i_tup, i_lst, i_idx, i_slc, q_add, q_sub, q_neg, q_lt, q_le, q_gt, q_ge, q_eqI, q_neI, q_isNN, q_isNT, q_isNI, q_isNL, q_isBB, q_isNB, q_isNS, q_isnNN, q_isnNT, q_isnNI, q_isnNL, q_andT, q_andF, q_orT, q_orF, q_not, q_toB, q_part, q_fzI, q_fzB, q_fzS, q_fzN, q_fzT, q_fzL, q_fzW, q_fzSt, q_fzSc, s_nil, s_cons, k_nx, k_rt, k_bk, k_ct, s_asg, s_asgF, s_asgT, k_asg, s_par, s_expr, s_iff, s_retN, s_raise, s_brk, s_cont, s_lams, s_pass, s_frz, k_frzO, k_frzV, s_retV, k_retO, k_retV, s_ret_non, s_ret_bl, s_ret_int, s_ret_str, s_ret_con, s_ret_bin, s_ret_neg, s_ret_cmp, s_ret_chain, s_ret_chain3, s_ret_lrng, s_ret_and, s_ret_or, s_ret_not, s_ret_ite, s_ret_tup, s_ret_lst, s_ret_idx, s_ret_slc, s_ret_call, s_ret_callK, s_ret_op0, s_ret_op1, s_ret_callM, s_ret_blt, s_ret_isx, s_ret_errs, s_ret_isk, s_ret_comp, s_app, k_runR, k_runN, for_nil, k_forN, k_forC, k_forB, k_forR, g_nm, g_tp, o_some, noErr_ret, Yes, retK, ret_bind, err_bind, bad_bind, draw_bind, getV, slOf, slO, setAll, parT, List.length_cons, List.length_nil, List.map_cons, List.map_nil, List.getElem?_cons_zero, List.getElem?_cons_succ, List.set_cons_zero, List.set_cons_succ, List.cons_append, List.nil_append, List.replicate_succ, List.replicate_zero, e_comp, fz_pot, fz_st, pm, e8, e21, ne_st, it, e17, fr, hc, noErr_ret, l0, ne_nn, Bool.not_true, Bool.false_eq_true, if_false]
theorem set8 {a b : D} : bindTg (.tp [13, 7]) (.tup [a, b]) [.val (.scr ns), .val .sta, x2, .val (potD f c), x4, x5, x6, x7, x8, x9, x10, x11, x12, x13, x14, x15, x16] = .ret [.val (.scr ns), .val .sta, x2, .val (potD f c), x4, x5, x6, .val b, x8, x9, x10, x11, x12, .val a, x14, x15, x16] := rfl
theorem loop8 (e8 : ∀ p q, Ok f c p → Ok f c q → k 8 [potD f c, stD p, stD q] = .ret (stD (lk p q))) (e21 : ∀ p q, Ok f c p → Ok f c q → k 21 [potD f c, stD p, stD q] = .ret (stD (lk p q))) (e17 : ∃ xs : List Int, (∀ x ∈ xs, f ≤ x ∧ x ≤ c) ∧ k 17 [potD f c] = .ret (.new (xs.map D.int)))
    (e16 : ∀ s x, k 16 [stD s, .int x] = .ret (i3D (act s x))) (e20 : ∀ p q x, k 20 [stD p, stD q, .int x] = .ret (i3D (thn3 p q x))) : ∀ (l : List (St × St)) (s : St) (x7 x14 : Sl), Ok f c s → (∀ z ∈ l, Ok f c z.1 ∧ Ok f c z.2) → ∃ y7 s' y14, Ok f c s' ∧ forL (bindTg (.tp [13, 7])) (ex k WH b8) (l.map fun z => .tup [stD z.1, stD z.2]) [.val (.scr ns), .val .sta, x2, .val (potD f c), x4, x5, x6, x7, x8, x9, x10, x11, x12, .val (stD s), x14, x15, x16] = .ret (.nx [.val (.scr ns), .val .sta, x2, .val (potD f c), x4, x5, x6, y7, x8, x9, x10, x11, x12, (.val (stD s')), y14, x15, x16])
  | [], s, x7, x14, hs, _ => ⟨x7, s, x14, hs, rfl⟩
  | z :: l, s, x7, x14, hs, h => by
    obtain ⟨h1, h2⟩ := h z List.mem_cons_self
    obtain ⟨y7, s', y14, o, q⟩ := loop8 e8 e21 e17 e16 e20 l z.1 (.val (stD z.2)) (.val (stD (lk z.1 z.2))) h1 fun y hy => h y (List.mem_cons_of_mem _ hy)
    refine ⟨y7, s', y14, o, ?_⟩
    have st := step8 (k := k) (ns := ns) (x2 := x2) (x4 := x4) (x5 := x5) (x6 := x6) (x8 := x8) (x9 := x9) (x10 := x10) (x11 := x11) (x12 := x12) (x14 := x14) (x15 := x15) (x16 := x16) h1 h2 (e8 _ _ h1 h2) (e21 _ _ h1 h2) e17 e16 e20
    rw [List.map_cons, for_cons, set8, ret_bind, st, ret_bind, k_forN]
    exact q
theorem w8 {p : St} {L : List St} (op : Ok f c p) (oL : ∀ t ∈ L, Ok f c t) (hL : L.length ≤ 1000) (e8 : ∀ p q, Ok f c p → Ok f c q → k 8 [potD f c, stD p, stD q] = .ret (stD (lk p q))) (e21 : ∀ p q, Ok f c p → Ok f c q → k 21 [potD f c, stD p, stD q] = .ret (stD (lk p q))) (e17 : ∃ xs : List Int, (∀ x ∈ xs, f ≤ x ∧ x ≤ c) ∧ k 17 [potD f c] = .ret (.new (xs.map D.int)))
    (e16 : ∀ s x, k 16 [stD s, .int x] = .ret (i3D (act s x))) (e20 : ∀ p q x, k 20 [stD p, stD q, .int x] = .ret (i3D (thn3 p q x))) (H : ∀ (x7 x14 : Sl) (s : St), Ok f c s → Yes (goP (Inv ns) fun _ => False) (ex k WH u_9 [.val (.scr ns), .val .sta, x2, .val (potD f c), x4, .val (.lst (stD p :: L.map stD)), x6, x7, x8, x9, x10, x11, x12, .val (stD s), x14, x15, x16])) : Yes (goP (Inv ns) fun _ => False) (ex k WH u_8 [.val (.scr ns), .val .sta, x2, .val (potD f c), x4, .val (.lst (stD p :: L.map stD)), x6, x7, x8, x9, x10, x11, x12, .val (stD p), x14, x15, x16]) := by
  have s1 : slcT (.lst (stD p :: L.map stD)) (some 1) none = .ret (.new (L.map stD)) := by
    show T.ret (D.new (cutD (stD p :: L.map stD) (some 1) none)) = _
    rw [cut_1]
    rfl
  have s2 : slcT (.lst (stD p :: L.map stD)) none (some 1) = .ret (.new [stD p]) := by
    show T.ret (D.new (cutD (stD p :: L.map stD) none (some 1))) = _
    rw [cut_1t]
  have a1 := add_nn (a := L.map stD) (b := [stD p]) (by rw [List.length_map]; show _ + 1 ≤ _; omega)
  have hz : zipD (.lst (stD p :: L.map stD)) (.new (L.map stD ++ [stD p])) = some (((p :: L).zip (L ++ [p])).map fun z => D.tup [stD z.1, stD z.2]) := by
    show some (((stD p :: L.map stD).zip (L.map stD ++ [stD p])).map fun p => D.tup [p.1, p.2]) = _
    congr 1
    rw [show stD p :: L.map stD = (p :: L).map stD from rfl, show L.map stD ++ [stD p] = (L ++ [p]).map stD by rw [List.map_append]; rfl, List.zip_map, List.map_map]
    rfl
  have hb : ∀ z ∈ (p :: L).zip (L ++ [p]), Ok f c z.1 ∧ Ok f c z.2 := fun z hz => by
    have h1 := List.of_mem_zip (a := z.1) (b := z.2) hz
    constructor
    · rcases List.mem_cons.mp h1.1 with e | e
      · rw [e]; exact op
      · exact oL _ e
    · rcases List.mem_append.mp h1.2 with e | e
      · exact oL _ e
      · rw [List.mem_singleton.mp e]; exact op
  obtain ⟨y7, s', y14, o, qq⟩ := loop8 (k := k) (ns := ns) (x2 := x2) (x4 := x4) (x5 := .val (.lst (stD p :: L.map stD))) (x6 := x6) (x8 := x8) (x9 := x9) (x10 := x10) (x11 := x11) (x12 := x12) (x15 := x15) (x16 := x16) e8 e21 e17 e16 e20 ((p :: L).zip (L ++ [p])) p x7 x14 op hb
  unfold b8 at qq
  unfold u_8
  simp only [e_non, e_bl, e_int, e_str, e_var, e_con, e_bin, e_neg, e_cmp, e_chain, e_chain3, e_lrng, e_and, e_or, e_not, e_ite, e_tup, e_lst, e_idx, e_slc, e_call, e_callK, e_blt, e_isk, e_caught, e_isx, e_must, e_errs, q_must, e_op0, e_op1, e_callM, b_op1, b_callM, i_callK, i_op1, o_emp, o_revT, b_var, b_cmp, b_chain, b_chain3, b_and, b_or, b_not, b_yes, b_call, b_callK, b_blt, b_isx, b_errs, b_isk, a_nil, a_cons, r_nil, r_cons, o_nopart, o_part, i_rng1, i_rng2, i_zip, i_enum, i_cap, i_var, i_blt, i_call, i_tup, i_lst, i_idx, i_slc, q_add, q_sub, q_neg, q_lt, q_le, q_gt, q_ge, q_eqI, q_neI, q_isNN, q_isNT, q_isNI, q_isNL, q_isBB, q_isNB, q_isNS, q_isnNN, q_isnNT, q_isnNI, q_isnNL, q_andT, q_andF, q_orT, q_orF, q_not, q_toB, q_part, q_fzI, q_fzB, q_fzS, q_fzN, q_fzT, q_fzL, q_fzW, q_fzSt, q_fzSc, s_nil, s_cons, k_nx, k_rt, k_bk, k_ct, s_asg, s_asgF, s_asgT, k_asg, s_par, s_expr, s_iff, s_retN, s_raise, s_brk, s_cont, s_lams, s_pass, s_frz, k_frzO, k_frzV, s_retV, k_retO, k_retV, s_ret_non, s_ret_bl, s_ret_int, s_ret_str, s_ret_con, s_ret_bin, s_ret_neg, s_ret_cmp, s_ret_chain, s_ret_chain3, s_ret_lrng, s_ret_and, s_ret_or, s_ret_not, s_ret_ite, s_ret_tup, s_ret_lst, s_ret_idx, s_ret_slc, s_ret_call, s_ret_callK, s_ret_op0, s_ret_op1, s_ret_callM, s_ret_blt, s_ret_isx, s_ret_errs, s_ret_isk, s_ret_comp, s_app, k_runR, k_runN, for_nil, k_forN, k_forC, k_forB, k_forR, g_nm, g_tp, o_some, noErr_ret, Yes, retK, ret_bind, err_bind, bad_bind, draw_bind, getV, slOf, slO, setAll, parT, List.length_cons, List.length_nil, List.map_cons, List.map_nil, List.getElem?_cons_zero, List.getElem?_cons_succ, List.set_cons_zero, List.set_cons_succ, List.cons_append, List.nil_append, List.replicate_succ, List.replicate_zero, s_for, s1, s2, a1, hz, qq]
  exact H y7 y14 s' o
theorem sts_of : ∀ {ys : List D}, (∀ y ∈ ys, StV f c y) → ∃ ks : List St, ys = ks.map stD ∧ ∀ s ∈ ks, Ok f c s
  | [], _ => ⟨[], rfl, fun _ h => by cases h⟩
  | y :: ys, h => by
    obtain ⟨i, rfl, oi⟩ := h y List.mem_cons_self
    obtain ⟨ks, rfl, ok⟩ := sts_of (ys := ys) fun z hz => h z (List.mem_cons_of_mem _ hz)
    exact ⟨i :: ks, rfl, fun s hs => by
      rcases List.mem_cons.mp hs with rfl | hs
      · exact oi
      · exact ok s hs⟩
theorem w7 {p q : St} (oq : Ok f c q) (e0 : Dr k) (e19 : Yes (StV f c) (k 19 [.sta, potD f c])) (H : ∀ L : List St, (∀ t ∈ L, Ok f c t) → L.length ≤ 1000 → Yes (goP (Inv ns) fun _ => False) (ex k WH u_8 [.val (.scr ns), .val .sta, x2, .val (potD f c), x4, .val (.lst (stD p :: L.map stD)), x6, .val (stD q), x8, x9, x10, x11, x12, .val (stD p), x14, x15, x16])) : Yes (goP (Inv ns) fun _ => False) (ex k WH u_7 [.val (.scr ns), .val .sta, x2, .val (potD f c), x4, x5, x6, .val (stD q), x8, x9, x10, x11, x12, .val (stD p), x14, x15, x16]) := by
  have ed := e0 39 (by decide) (by decide)
  unfold u_7
  simp only [e_non, e_bl, e_int, e_str, e_var, e_con, e_bin, e_neg, e_cmp, e_chain, e_chain3, e_lrng, e_and, e_or, e_not, e_ite, e_tup, e_lst, e_idx, e_slc, e_call, e_callK, e_blt, e_isk, e_caught, e_isx, e_must, e_errs, q_must, e_op0, e_op1, e_callM, b_op1, b_callM, i_callK, i_op1, o_emp, o_revT, b_var, b_cmp, b_chain, b_chain3, b_and, b_or, b_not, b_yes, b_call, b_callK, b_blt, b_isx, b_errs, b_isk, a_nil, a_cons, r_nil, r_cons, o_nopart, o_part, i_rng1, i_rng2, i_zip, i_enum, i_cap, i_var, i_blt, i_call, i_tup, i_lst, i_idx, i_slc, q_add, q_sub, q_neg, q_lt, q_le, q_gt, q_ge, q_eqI, q_neI, q_isNN, q_isNT, q_isNI, q_isNL, q_isBB, q_isNB, q_isNS, q_isnNN, q_isnNT, q_isnNI, q_isnNL, q_andT, q_andF, q_orT, q_orF, q_not, q_toB, q_part, q_fzI, q_fzB, q_fzS, q_fzN, q_fzT, q_fzL, q_fzW, q_fzSt, q_fzSc, s_nil, s_cons, k_nx, k_rt, k_bk, k_ct, s_asg, s_asgF, s_asgT, k_asg, s_par, s_expr, s_iff, s_retN, s_raise, s_brk, s_cont, s_lams, s_pass, s_frz, k_frzO, k_frzV, s_retV, k_retO, k_retV, s_ret_non, s_ret_bl, s_ret_int, s_ret_str, s_ret_con, s_ret_bin, s_ret_neg, s_ret_cmp, s_ret_chain, s_ret_chain3, s_ret_lrng, s_ret_and, s_ret_or, s_ret_not, s_ret_ite, s_ret_tup, s_ret_lst, s_ret_idx, s_ret_slc, s_ret_call, s_ret_callK, s_ret_op0, s_ret_op1, s_ret_callM, s_ret_blt, s_ret_isx, s_ret_errs, s_ret_isk, s_ret_comp, s_app, k_runR, k_runN, for_nil, k_forN, k_forC, k_forB, k_forR, g_nm, g_tp, o_some, noErr_ret, Yes, retK, ret_bind, err_bind, bad_bind, draw_bind, getV, slOf, slO, setAll, parT, List.length_cons, List.length_nil, List.map_cons, List.map_nil, List.getElem?_cons_zero, List.getElem?_cons_succ, List.set_cons_zero, List.set_cons_succ, List.cons_append, List.nil_append, List.replicate_succ, List.replicate_zero, e_comp, ed, fz_st, lt2, bind_assoc']
  refine yes_draw fun t t0 t1 => ?_
  obtain ⟨l, hl, ll⟩ := rng1_T (hi := t) (by omega) (by omega)
  rw [hl, ret_bind]
  have cl := compL_all (f := compF (.nm 15) [15] (evs k .yes).B (evs k (.call 19 (.cons (.var 1) (.cons (.var 3) .nil)))).E [.val (.scr ns), .val .sta, x2, .val (potD f c), x4, x5, x6, .val (stD q), x8, x9, x10, x11, x12, .val (stD p), x14, x15, x16]) (g := D.int) (P := StV f c) (E := fun _ => False) l (fun x _ => by
    refine Yes.all ?_
    simp only [compF_eq, wipeE, e_non, e_bl, e_int, e_str, e_var, e_con, e_bin, e_neg, e_cmp, e_chain, e_chain3, e_lrng, e_and, e_or, e_not, e_ite, e_tup, e_lst, e_idx, e_slc, e_call, e_callK, e_blt, e_isk, e_caught, e_isx, e_must, e_errs, q_must, e_op0, e_op1, e_callM, b_op1, b_callM, i_callK, i_op1, o_emp, o_revT, b_var, b_cmp, b_chain, b_chain3, b_and, b_or, b_not, b_yes, b_call, b_callK, b_blt, b_isx, b_errs, b_isk, a_nil, a_cons, r_nil, r_cons, o_nopart, o_part, i_rng1, i_rng2, i_zip, i_enum, i_cap, i_var, i_blt, i_call, i_tup, i_lst, i_idx, i_slc, q_add, q_sub, q_neg, q_lt, q_le, q_gt, q_ge, q_eqI, q_neI, q_isNN, q_isNT, q_isNI, q_isNL, q_isBB, q_isNB, q_isNS, q_isnNN, q_isnNT, q_isnNI, q_isnNL, q_andT, q_andF, q_orT, q_orF, q_not, q_toB, q_part, q_fzI, q_fzB, q_fzS, q_fzN, q_fzT, q_fzL, q_fzW, q_fzSt, q_fzSc, s_nil, s_cons, k_nx, k_rt, k_bk, k_ct, s_asg, s_asgF, s_asgT, k_asg, s_par, s_expr, s_iff, s_retN, s_raise, s_brk, s_cont, s_lams, s_pass, s_frz, k_frzO, k_frzV, s_retV, k_retO, k_retV, s_ret_non, s_ret_bl, s_ret_int, s_ret_str, s_ret_con, s_ret_bin, s_ret_neg, s_ret_cmp, s_ret_chain, s_ret_chain3, s_ret_lrng, s_ret_and, s_ret_or, s_ret_not, s_ret_ite, s_ret_tup, s_ret_lst, s_ret_idx, s_ret_slc, s_ret_call, s_ret_callK, s_ret_op0, s_ret_op1, s_ret_callM, s_ret_blt, s_ret_isx, s_ret_errs, s_ret_isk, s_ret_comp, s_app, k_runR, k_runN, for_nil, k_forN, k_forC, k_forB, k_forR, g_nm, g_tp, o_some, noErr_ret, Yes, retK, ret_bind, err_bind, bad_bind, draw_bind, getV, slOf, slO, setAll, parT, List.length_cons, List.length_nil, List.map_cons, List.map_nil, List.getElem?_cons_zero, List.getElem?_cons_succ, List.set_cons_zero, List.set_cons_succ, List.cons_append, List.nil_append, List.replicate_succ, List.replicate_zero, fz_pot, if_true, bind_assoc']
    refine yes_then e19 fun y hy => ?_
    obtain ⟨s, rfl, os⟩ := hy
    rw [fz_st]
    exact yes_ret ⟨_, rfl, s, rfl, os⟩)
  have cy : Yes (fun ys => ys.length = l.length ∧ ∀ y ∈ ys, StV f c y) (noErr (compL (compF (.nm 15) [15] (evs k .yes).B (evs k (.call 19 (.cons (.var 1) (.cons (.var 3) .nil)))).E [.val (.scr ns), .val .sta, x2, .val (potD f c), x4, x5, x6, .val (stD q), x8, x9, x10, x11, x12, .val (stD p), x14, x15, x16]) (l.map D.int))) := ⟨noErr_all0 cl⟩
  refine yes_then cy fun ys hy => ?_
  obtain ⟨ks, rfl, ok⟩ := sts_of hy.2
  have hk : ks.length ≤ 100 := by
    have := hy.1
    rw [List.length_map] at this
    omega
  have a1 := add_nn (a := [stD p, stD q]) (b := ks.map stD) (by rw [List.length_map]; show 2 + _ ≤ _; omega)
  have a2 : [stD p, stD q] ++ ks.map stD = stD p :: (q :: ks).map stD := rfl
  rw [a2] at a1
  simp only [e_non, e_bl, e_int, e_str, e_var, e_con, e_bin, e_neg, e_cmp, e_chain, e_chain3, e_lrng, e_and, e_or, e_not, e_ite, e_tup, e_lst, e_idx, e_slc, e_call, e_callK, e_blt, e_isk, e_caught, e_isx, e_must, e_errs, q_must, e_op0, e_op1, e_callM, b_op1, b_callM, i_callK, i_op1, o_emp, o_revT, b_var, b_cmp, b_chain, b_chain3, b_and, b_or, b_not, b_yes, b_call, b_callK, b_blt, b_isx, b_errs, b_isk, a_nil, a_cons, r_nil, r_cons, o_nopart, o_part, i_rng1, i_rng2, i_zip, i_enum, i_cap, i_var, i_blt, i_call, i_tup, i_lst, i_idx, i_slc, q_add, q_sub, q_neg, q_lt, q_le, q_gt, q_ge, q_eqI, q_neI, q_isNN, q_isNT, q_isNI, q_isNL, q_isBB, q_isNB, q_isNS, q_isnNN, q_isnNT, q_isnNI, q_isnNL, q_andT, q_andF, q_orT, q_orF, q_not, q_toB, q_part, q_fzI, q_fzB, q_fzS, q_fzN, q_fzT, q_fzL, q_fzW, q_fzSt, q_fzSc, s_nil, s_cons, k_nx, k_rt, k_bk, k_ct, s_asg, s_asgF, s_asgT, k_asg, s_par, s_expr, s_iff, s_retN, s_raise, s_brk, s_cont, s_lams, s_pass, s_frz, k_frzO, k_frzV, s_retV, k_retO, k_retV, s_ret_non, s_ret_bl, s_ret_int, s_ret_str, s_ret_con, s_ret_bin, s_ret_neg, s_ret_cmp, s_ret_chain, s_ret_chain3, s_ret_lrng, s_ret_and, s_ret_or, s_ret_not, s_ret_ite, s_ret_tup, s_ret_lst, s_ret_idx, s_ret_slc, s_ret_call, s_ret_callK, s_ret_op0, s_ret_op1, s_ret_callM, s_ret_blt, s_ret_isx, s_ret_errs, s_ret_isk, s_ret_comp, s_app, k_runR, k_runN, for_nil, k_forN, k_forC, k_forB, k_forR, g_nm, g_tp, o_some, noErr_ret, Yes, retK, ret_bind, err_bind, bad_bind, draw_bind, getV, slOf, slO, setAll, parT, List.length_cons, List.length_nil, List.map_cons, List.map_nil, List.getElem?_cons_zero, List.getElem?_cons_succ, List.set_cons_zero, List.set_cons_succ, List.cons_append, List.nil_append, List.replicate_succ, List.replicate_zero, a1]
  exact H (q :: ks) (fun t ht => by
    rcases List.mem_cons.mp ht with rfl | ht
    · exact oq
    · exact ok t ht) (by rw [List.length_cons]; omega)
theorem w4 {p q z n0 : St} {as bs : List D} (hl : as.length + bs.length ≤ 16777216) (e1 : k 15 [potD f c, .lst as] = .ret (stD p)) (e2 : k 15 [potD f c, .lst bs] = .ret (stD q)) (e3 : k 15 [potD f c, .lst (as ++ bs)] = .ret (stD z)) (e4 : k 15 [potD f c, .lst []] = .ret (stD n0)) (e8 : k 8 [potD f c, stD p, stD q] = .ret (stD z))
    (H : Yes (goP (Inv ns) fun _ => False) (ex k WH u_7 [.val (.scr ns), .val .sta, x2, .val (potD f c), .val (stD n0), x5, x6, .val (stD q), x8, x9, x10, .val (.lst as), .val (.lst bs), .val (stD p), x14, x15, x16])) : Yes (goP (Inv ns) fun _ => False) (ex k WH u_4 [.val (.scr ns), .val .sta, x2, .val (potD f c), x4, x5, x6, x7, x8, x9, x10, .val (.lst as), .val (.lst bs), x13, x14, x15, x16]) := by
  have a1 : binT .add (.lst as) (.lst bs) = .ret (.new (as ++ bs)) := if_pos hl
  have l0 : lenT [] (.new []) = .ret (.new []) := rfl
  unfold u_4
  simp only [e_non, e_bl, e_int, e_str, e_var, e_con, e_bin, e_neg, e_cmp, e_chain, e_chain3, e_lrng, e_and, e_or, e_not, e_ite, e_tup, e_lst, e_idx, e_slc, e_call, e_callK, e_blt, e_isk, e_caught, e_isx, e_must, e_errs, q_must, e_op0, e_op1, e_callM, b_op1, b_callM, i_callK, i_op1, o_emp, o_revT, b_var, b_cmp, b_chain, b_chain3, b_and, b_or, b_not, b_yes, b_call, b_callK, b_blt, b_isx, b_errs, b_isk, a_nil, a_cons, r_nil, r_cons, o_nopart, o_part, i_rng1, i_rng2, i_zip, i_enum, i_cap, i_var, i_blt, i_call, i_tup, i_lst, i_idx, i_slc, q_add, q_sub, q_neg, q_lt, q_le, q_gt, q_ge, q_eqI, q_neI, q_isNN, q_isNT, q_isNI, q_isNL, q_isBB, q_isNB, q_isNS, q_isnNN, q_isnNT, q_isnNI, q_isnNL, q_andT, q_andF, q_orT, q_orF, q_not, q_toB, q_part, q_fzI, q_fzB, q_fzS, q_fzN, q_fzT, q_fzL, q_fzW, q_fzSt, q_fzSc, s_nil, s_cons, k_nx, k_rt, k_bk, k_ct, s_asg, s_asgF, s_asgT, k_asg, s_par, s_expr, s_iff, s_retN, s_raise, s_brk, s_cont, s_lams, s_pass, s_frz, k_frzO, k_frzV, s_retV, k_retO, k_retV, s_ret_non, s_ret_bl, s_ret_int, s_ret_str, s_ret_con, s_ret_bin, s_ret_neg, s_ret_cmp, s_ret_chain, s_ret_chain3, s_ret_lrng, s_ret_and, s_ret_or, s_ret_not, s_ret_ite, s_ret_tup, s_ret_lst, s_ret_idx, s_ret_slc, s_ret_call, s_ret_callK, s_ret_op0, s_ret_op1, s_ret_callM, s_ret_blt, s_ret_isx, s_ret_errs, s_ret_isk, s_ret_comp, s_app, k_runR, k_runN, for_nil, k_forN, k_forC, k_forB, k_forR, g_nm, g_tp, o_some, noErr_ret, Yes, retK, ret_bind, err_bind, bad_bind, draw_bind, getV, slOf, slO, setAll, parT, List.length_cons, List.length_nil, List.map_cons, List.map_nil, List.getElem?_cons_zero, List.getElem?_cons_succ, List.set_cons_zero, List.set_cons_succ, List.cons_append, List.nil_append, List.replicate_succ, List.replicate_zero, fz_pot, fz_st, e1, e2, t2]
  unfold u_5
  simp only [e_non, e_bl, e_int, e_str, e_var, e_con, e_bin, e_neg, e_cmp, e_chain, e_chain3, e_lrng, e_and, e_or, e_not, e_ite, e_tup, e_lst, e_idx, e_slc, e_call, e_callK, e_blt, e_isk, e_caught, e_isx, e_must, e_errs, q_must, e_op0, e_op1, e_callM, b_op1, b_callM, i_callK, i_op1, o_emp, o_revT, b_var, b_cmp, b_chain, b_chain3, b_and, b_or, b_not, b_yes, b_call, b_callK, b_blt, b_isx, b_errs, b_isk, a_nil, a_cons, r_nil, r_cons, o_nopart, o_part, i_rng1, i_rng2, i_zip, i_enum, i_cap, i_var, i_blt, i_call, i_tup, i_lst, i_idx, i_slc, q_add, q_sub, q_neg, q_lt, q_le, q_gt, q_ge, q_eqI, q_neI, q_isNN, q_isNT, q_isNI, q_isNL, q_isBB, q_isNB, q_isNS, q_isnNN, q_isnNT, q_isnNI, q_isnNL, q_andT, q_andF, q_orT, q_orF, q_not, q_toB, q_part, q_fzI, q_fzB, q_fzS, q_fzN, q_fzT, q_fzL, q_fzW, q_fzSt, q_fzSc, s_nil, s_cons, k_nx, k_rt, k_bk, k_ct, s_asg, s_asgF, s_asgT, k_asg, s_par, s_expr, s_iff, s_retN, s_raise, s_brk, s_cont, s_lams, s_pass, s_frz, k_frzO, k_frzV, s_retV, k_retO, k_retV, s_ret_non, s_ret_bl, s_ret_int, s_ret_str, s_ret_con, s_ret_bin, s_ret_neg, s_ret_cmp, s_ret_chain, s_ret_chain3, s_ret_lrng, s_ret_and, s_ret_or, s_ret_not, s_ret_ite, s_ret_tup, s_ret_lst, s_ret_idx, s_ret_slc, s_ret_call, s_ret_callK, s_ret_op0, s_ret_op1, s_ret_callM, s_ret_blt, s_ret_isx, s_ret_errs, s_ret_isk, s_ret_comp, s_app, k_runR, k_runN, for_nil, k_forN, k_forC, k_forB, k_forR, g_nm, g_tp, o_some, noErr_ret, Yes, retK, ret_bind, err_bind, bad_bind, draw_bind, getV, slOf, slO, setAll, parT, List.length_cons, List.length_nil, List.map_cons, List.map_nil, List.getElem?_cons_zero, List.getElem?_cons_succ, List.set_cons_zero, List.set_cons_succ, List.cons_append, List.nil_append, List.replicate_succ, List.replicate_zero, fz_pot, fz_st, e8, a1, e3, ne_st, Bool.false_eq_true, if_false]
  unfold u_6
  simp only [e_non, e_bl, e_int, e_str, e_var, e_con, e_bin, e_neg, e_cmp, e_chain, e_chain3, e_lrng, e_and, e_or, e_not, e_ite, e_tup, e_lst, e_idx, e_slc, e_call, e_callK, e_blt, e_isk, e_caught, e_isx, e_must, e_errs, q_must, e_op0, e_op1, e_callM, b_op1, b_callM, i_callK, i_op1, o_emp, o_revT, b_var, b_cmp, b_chain, b_chain3, b_and, b_or, b_not, b_yes, b_call, b_callK, b_blt, b_isx, b_errs, b_isk, a_nil, a_cons, r_nil, r_cons, o_nopart, o_part, i_rng1, i_rng2, i_zip, i_enum, i_cap, i_var, i_blt, i_call, i_tup, i_lst, i_idx, i_slc, q_add, q_sub, q_neg, q_lt, q_le, q_gt, q_ge, q_eqI, q_neI, q_isNN, q_isNT, q_isNI, q_isNL, q_isBB, q_isNB, q_isNS, q_isnNN, q_isnNT, q_isnNI, q_isnNL, q_andT, q_andF, q_orT, q_orF, q_not, q_toB, q_part, q_fzI, q_fzB, q_fzS, q_fzN, q_fzT, q_fzL, q_fzW, q_fzSt, q_fzSc, s_nil, s_cons, k_nx, k_rt, k_bk, k_ct, s_asg, s_asgF, s_asgT, k_asg, s_par, s_expr, s_iff, s_retN, s_raise, s_brk, s_cont, s_lams, s_pass, s_frz, k_frzO, k_frzV, s_retV, k_retO, k_retV, s_ret_non, s_ret_bl, s_ret_int, s_ret_str, s_ret_con, s_ret_bin, s_ret_neg, s_ret_cmp, s_ret_chain, s_ret_chain3, s_ret_lrng, s_ret_and, s_ret_or, s_ret_not, s_ret_ite, s_ret_tup, s_ret_lst, s_ret_idx, s_ret_slc, s_ret_call, s_ret_callK, s_ret_op0, s_ret_op1, s_ret_callM, s_ret_blt, s_ret_isx, s_ret_errs, s_ret_isk, s_ret_comp, s_app, k_runR, k_runN, for_nil, k_forN, k_forC, k_forB, k_forR, g_nm, g_tp, o_some, noErr_ret, Yes, retK, ret_bind, err_bind, bad_bind, draw_bind, getV, slOf, slO, setAll, parT, List.length_cons, List.length_nil, List.map_cons, List.map_nil, List.getElem?_cons_zero, List.getElem?_cons_succ, List.set_cons_zero, List.set_cons_succ, List.cons_append, List.nil_append, List.replicate_succ, List.replicate_zero, fz_pot, fz_st, l0, e4]
  exact H
theorem w0 (e10 : Yes PotV (k 10 [.sta])) (e12 : ∀ f c, Pot f c → Yes IntsV (k 12 [.sta, potD f c, .int 30])) (H : ∀ (f c : Int) (as bs : List Int), Pot f c → as.length ≤ 1000 → bs.length ≤ 1000 → Yes (goP (Inv ns) fun _ => False) (ex k WH u_4 [.val (.scr ns), .val .sta, x2, .val (potD f c), x4, x5, x6, x7, x8, x9, x10, .val (.lst (as.map D.int)), .val (.lst (bs.map D.int)), x13, x14, x15, x16])) : Yes (goP (Inv ns) fun _ => False) (ex k WH u_0 [.val (.scr ns), .val .sta, x2, x3, x4, x5, x6, x7, x8, x9, x10, x11, x12, x13, x14, x15, x16]) := by
  unfold u_0
  simp only [e_non, e_bl, e_int, e_str, e_var, e_con, e_bin, e_neg, e_cmp, e_chain, e_chain3, e_lrng, e_and, e_or, e_not, e_ite, e_tup, e_lst, e_idx, e_slc, e_call, e_callK, e_blt, e_isk, e_caught, e_isx, e_must, e_errs, q_must, e_op0, e_op1, e_callM, b_op1, b_callM, i_callK, i_op1, o_emp, o_revT, b_var, b_cmp, b_chain, b_chain3, b_and, b_or, b_not, b_yes, b_call, b_callK, b_blt, b_isx, b_errs, b_isk, a_nil, a_cons, r_nil, r_cons, o_nopart, o_part, i_rng1, i_rng2, i_zip, i_enum, i_cap, i_var, i_blt, i_call, i_tup, i_lst, i_idx, i_slc, q_add, q_sub, q_neg, q_lt, q_le, q_gt, q_ge, q_eqI, q_neI, q_isNN, q_isNT, q_isNI, q_isNL, q_isBB, q_isNB, q_isNS, q_isnNN, q_isnNT, q_isnNI, q_isnNL, q_andT, q_andF, q_orT, q_orF, q_not, q_toB, q_part, q_fzI, q_fzB, q_fzS, q_fzN, q_fzT, q_fzL, q_fzW, q_fzSt, q_fzSc, s_nil, s_cons, k_nx, k_rt, k_bk, k_ct, s_asg, s_asgF, s_asgT, k_asg, s_par, s_expr, s_iff, s_retN, s_raise, s_brk, s_cont, s_lams, s_pass, s_frz, k_frzO, k_frzV, s_retV, k_retO, k_retV, s_ret_non, s_ret_bl, s_ret_int, s_ret_str, s_ret_con, s_ret_bin, s_ret_neg, s_ret_cmp, s_ret_chain, s_ret_chain3, s_ret_lrng, s_ret_and, s_ret_or, s_ret_not, s_ret_ite, s_ret_tup, s_ret_lst, s_ret_idx, s_ret_slc, s_ret_call, s_ret_callK, s_ret_op0, s_ret_op1, s_ret_callM, s_ret_blt, s_ret_isx, s_ret_errs, s_ret_isk, s_ret_comp, s_app, k_runR, k_runN, for_nil, k_forN, k_forC, k_forB, k_forR, g_nm, g_tp, o_some, noErr_ret, Yes, retK, ret_bind, err_bind, bad_bind, draw_bind, getV, slOf, slO, setAll, parT, List.length_cons, List.length_nil, List.map_cons, List.map_nil, List.getElem?_cons_zero, List.getElem?_cons_succ, List.set_cons_zero, List.set_cons_succ, List.cons_append, List.nil_append, List.replicate_succ, List.replicate_zero, bind_assoc']
  refine yes_then e10 fun d hd => ?_
  obtain ⟨f, c, rfl, hp⟩ := hd
  simp only [e_non, e_bl, e_int, e_str, e_var, e_con, e_bin, e_neg, e_cmp, e_chain, e_chain3, e_lrng, e_and, e_or, e_not, e_ite, e_tup, e_lst, e_idx, e_slc, e_call, e_callK, e_blt, e_isk, e_caught, e_isx, e_must, e_errs, q_must, e_op0, e_op1, e_callM, b_op1, b_callM, i_callK, i_op1, o_emp, o_revT, b_var, b_cmp, b_chain, b_chain3, b_and, b_or, b_not, b_yes, b_call, b_callK, b_blt, b_isx, b_errs, b_isk, a_nil, a_cons, r_nil, r_cons, o_nopart, o_part, i_rng1, i_rng2, i_zip, i_enum, i_cap, i_var, i_blt, i_call, i_tup, i_lst, i_idx, i_slc, q_add, q_sub, q_neg, q_lt, q_le, q_gt, q_ge, q_eqI, q_neI, q_isNN, q_isNT, q_isNI, q_isNL, q_isBB, q_isNB, q_isNS, q_isnNN, q_isnNT, q_isnNI, q_isnNL, q_andT, q_andF, q_orT, q_orF, q_not, q_toB, q_part, q_fzI, q_fzB, q_fzS, q_fzN, q_fzT, q_fzL, q_fzW, q_fzSt, q_fzSc, s_nil, s_cons, k_nx, k_rt, k_bk, k_ct, s_asg, s_asgF, s_asgT, k_asg, s_par, s_expr, s_iff, s_retN, s_raise, s_brk, s_cont, s_lams, s_pass, s_frz, k_frzO, k_frzV, s_retV, k_retO, k_retV, s_ret_non, s_ret_bl, s_ret_int, s_ret_str, s_ret_con, s_ret_bin, s_ret_neg, s_ret_cmp, s_ret_chain, s_ret_chain3, s_ret_lrng, s_ret_and, s_ret_or, s_ret_not, s_ret_ite, s_ret_tup, s_ret_lst, s_ret_idx, s_ret_slc, s_ret_call, s_ret_callK, s_ret_op0, s_ret_op1, s_ret_callM, s_ret_blt, s_ret_isx, s_ret_errs, s_ret_isk, s_ret_comp, s_app, k_runR, k_runN, for_nil, k_forN, k_forC, k_forB, k_forR, g_nm, g_tp, o_some, noErr_ret, Yes, retK, ret_bind, err_bind, bad_bind, draw_bind, getV, slOf, slO, setAll, parT, List.length_cons, List.length_nil, List.map_cons, List.map_nil, List.getElem?_cons_zero, List.getElem?_cons_succ, List.set_cons_zero, List.set_cons_succ, List.cons_append, List.nil_append, List.replicate_succ, List.replicate_zero, fz_pot]
  unfold u_1
  simp only [e_non, e_bl, e_int, e_str, e_var, e_con, e_bin, e_neg, e_cmp, e_chain, e_chain3, e_lrng, e_and, e_or, e_not, e_ite, e_tup, e_lst, e_idx, e_slc, e_call, e_callK, e_blt, e_isk, e_caught, e_isx, e_must, e_errs, q_must, e_op0, e_op1, e_callM, b_op1, b_callM, i_callK, i_op1, o_emp, o_revT, b_var, b_cmp, b_chain, b_chain3, b_and, b_or, b_not, b_yes, b_call, b_callK, b_blt, b_isx, b_errs, b_isk, a_nil, a_cons, r_nil, r_cons, o_nopart, o_part, i_rng1, i_rng2, i_zip, i_enum, i_cap, i_var, i_blt, i_call, i_tup, i_lst, i_idx, i_slc, q_add, q_sub, q_neg, q_lt, q_le, q_gt, q_ge, q_eqI, q_neI, q_isNN, q_isNT, q_isNI, q_isNL, q_isBB, q_isNB, q_isNS, q_isnNN, q_isnNT, q_isnNI, q_isnNL, q_andT, q_andF, q_orT, q_orF, q_not, q_toB, q_part, q_fzI, q_fzB, q_fzS, q_fzN, q_fzT, q_fzL, q_fzW, q_fzSt, q_fzSc, s_nil, s_cons, k_nx, k_rt, k_bk, k_ct, s_asg, s_asgF, s_asgT, k_asg, s_par, s_expr, s_iff, s_retN, s_raise, s_brk, s_cont, s_lams, s_pass, s_frz, k_frzO, k_frzV, s_retV, k_retO, k_retV, s_ret_non, s_ret_bl, s_ret_int, s_ret_str, s_ret_con, s_ret_bin, s_ret_neg, s_ret_cmp, s_ret_chain, s_ret_chain3, s_ret_lrng, s_ret_and, s_ret_or, s_ret_not, s_ret_ite, s_ret_tup, s_ret_lst, s_ret_idx, s_ret_slc, s_ret_call, s_ret_callK, s_ret_op0, s_ret_op1, s_ret_callM, s_ret_blt, s_ret_isx, s_ret_errs, s_ret_isk, s_ret_comp, s_app, k_runR, k_runN, for_nil, k_forN, k_forC, k_forB, k_forR, g_nm, g_tp, o_some, noErr_ret, Yes, retK, ret_bind, err_bind, bad_bind, draw_bind, getV, slOf, slO, setAll, parT, List.length_cons, List.length_nil, List.map_cons, List.map_nil, List.getElem?_cons_zero, List.getElem?_cons_succ, List.set_cons_zero, List.set_cons_succ, List.cons_append, List.nil_append, List.replicate_succ, List.replicate_zero, fz_pot, bind_assoc']
  refine yes_then (e12 f c hp) fun d hd => ?_
  obtain ⟨as, la, rfl⟩ := hd
  refine yes_then (e12 f c hp) fun d hd => ?_
  obtain ⟨bs, lb, rfl⟩ := hd
  simp only [e_non, e_bl, e_int, e_str, e_var, e_con, e_bin, e_neg, e_cmp, e_chain, e_chain3, e_lrng, e_and, e_or, e_not, e_ite, e_tup, e_lst, e_idx, e_slc, e_call, e_callK, e_blt, e_isk, e_caught, e_isx, e_must, e_errs, q_must, e_op0, e_op1, e_callM, b_op1, b_callM, i_callK, i_op1, o_emp, o_revT, b_var, b_cmp, b_chain, b_chain3, b_and, b_or, b_not, b_yes, b_call, b_callK, b_blt, b_isx, b_errs, b_isk, a_nil, a_cons, r_nil, r_cons, o_nopart, o_part, i_rng1, i_rng2, i_zip, i_enum, i_cap, i_var, i_blt, i_call, i_tup, i_lst, i_idx, i_slc, q_add, q_sub, q_neg, q_lt, q_le, q_gt, q_ge, q_eqI, q_neI, q_isNN, q_isNT, q_isNI, q_isNL, q_isBB, q_isNB, q_isNS, q_isnNN, q_isnNT, q_isnNI, q_isnNL, q_andT, q_andF, q_orT, q_orF, q_not, q_toB, q_part, q_fzI, q_fzB, q_fzS, q_fzN, q_fzT, q_fzL, q_fzW, q_fzSt, q_fzSc, s_nil, s_cons, k_nx, k_rt, k_bk, k_ct, s_asg, s_asgF, s_asgT, k_asg, s_par, s_expr, s_iff, s_retN, s_raise, s_brk, s_cont, s_lams, s_pass, s_frz, k_frzO, k_frzV, s_retV, k_retO, k_retV, s_ret_non, s_ret_bl, s_ret_int, s_ret_str, s_ret_con, s_ret_bin, s_ret_neg, s_ret_cmp, s_ret_chain, s_ret_chain3, s_ret_lrng, s_ret_and, s_ret_or, s_ret_not, s_ret_ite, s_ret_tup, s_ret_lst, s_ret_idx, s_ret_slc, s_ret_call, s_ret_callK, s_ret_op0, s_ret_op1, s_ret_callM, s_ret_blt, s_ret_isx, s_ret_errs, s_ret_isk, s_ret_comp, s_app, k_runR, k_runN, for_nil, k_forN, k_forC, k_forB, k_forR, g_nm, g_tp, o_some, noErr_ret, Yes, retK, ret_bind, err_bind, bad_bind, draw_bind, getV, slOf, slO, setAll, parT, List.length_cons, List.length_nil, List.map_cons, List.map_nil, List.getElem?_cons_zero, List.getElem?_cons_succ, List.set_cons_zero, List.set_cons_succ, List.cons_append, List.nil_append, List.replicate_succ, List.replicate_zero]
  unfold u_2
  simp only [e_non, e_bl, e_int, e_str, e_var, e_con, e_bin, e_neg, e_cmp, e_chain, e_chain3, e_lrng, e_and, e_or, e_not, e_ite, e_tup, e_lst, e_idx, e_slc, e_call, e_callK, e_blt, e_isk, e_caught, e_isx, e_must, e_errs, q_must, e_op0, e_op1, e_callM, b_op1, b_callM, i_callK, i_op1, o_emp, o_revT, b_var, b_cmp, b_chain, b_chain3, b_and, b_or, b_not, b_yes, b_call, b_callK, b_blt, b_isx, b_errs, b_isk, a_nil, a_cons, r_nil, r_cons, o_nopart, o_part, i_rng1, i_rng2, i_zip, i_enum, i_cap, i_var, i_blt, i_call, i_tup, i_lst, i_idx, i_slc, q_add, q_sub, q_neg, q_lt, q_le, q_gt, q_ge, q_eqI, q_neI, q_isNN, q_isNT, q_isNI, q_isNL, q_isBB, q_isNB, q_isNS, q_isnNN, q_isnNT, q_isnNI, q_isnNL, q_andT, q_andF, q_orT, q_orF, q_not, q_toB, q_part, q_fzI, q_fzB, q_fzS, q_fzN, q_fzT, q_fzL, q_fzW, q_fzSt, q_fzSc, s_nil, s_cons, k_nx, k_rt, k_bk, k_ct, s_asg, s_asgF, s_asgT, k_asg, s_par, s_expr, s_iff, s_retN, s_raise, s_brk, s_cont, s_lams, s_pass, s_frz, k_frzO, k_frzV, s_retV, k_retO, k_retV, s_ret_non, s_ret_bl, s_ret_int, s_ret_str, s_ret_con, s_ret_bin, s_ret_neg, s_ret_cmp, s_ret_chain, s_ret_chain3, s_ret_lrng, s_ret_and, s_ret_or, s_ret_not, s_ret_ite, s_ret_tup, s_ret_lst, s_ret_idx, s_ret_slc, s_ret_call, s_ret_callK, s_ret_op0, s_ret_op1, s_ret_callM, s_ret_blt, s_ret_isx, s_ret_errs, s_ret_isk, s_ret_comp, s_app, k_runR, k_runN, for_nil, k_forN, k_forC, k_forB, k_forR, g_nm, g_tp, o_some, noErr_ret, Yes, retK, ret_bind, err_bind, bad_bind, draw_bind, getV, slOf, slO, setAll, parT, List.length_cons, List.length_nil, List.map_cons, List.map_nil, List.getElem?_cons_zero, List.getElem?_cons_succ, List.set_cons_zero, List.set_cons_succ, List.cons_append, List.nil_append, List.replicate_succ, List.replicate_zero]
  unfold u_3
  simp only [e_non, e_bl, e_int, e_str, e_var, e_con, e_bin, e_neg, e_cmp, e_chain, e_chain3, e_lrng, e_and, e_or, e_not, e_ite, e_tup, e_lst, e_idx, e_slc, e_call, e_callK, e_blt, e_isk, e_caught, e_isx, e_must, e_errs, q_must, e_op0, e_op1, e_callM, b_op1, b_callM, i_callK, i_op1, o_emp, o_revT, b_var, b_cmp, b_chain, b_chain3, b_and, b_or, b_not, b_yes, b_call, b_callK, b_blt, b_isx, b_errs, b_isk, a_nil, a_cons, r_nil, r_cons, o_nopart, o_part, i_rng1, i_rng2, i_zip, i_enum, i_cap, i_var, i_blt, i_call, i_tup, i_lst, i_idx, i_slc, q_add, q_sub, q_neg, q_lt, q_le, q_gt, q_ge, q_eqI, q_neI, q_isNN, q_isNT, q_isNI, q_isNL, q_isBB, q_isNB, q_isNS, q_isnNN, q_isnNT, q_isnNI, q_isnNL, q_andT, q_andF, q_orT, q_orF, q_not, q_toB, q_part, q_fzI, q_fzB, q_fzS, q_fzN, q_fzT, q_fzL, q_fzW, q_fzSt, q_fzSc, s_nil, s_cons, k_nx, k_rt, k_bk, k_ct, s_asg, s_asgF, s_asgT, k_asg, s_par, s_expr, s_iff, s_retN, s_raise, s_brk, s_cont, s_lams, s_pass, s_frz, k_frzO, k_frzV, s_retV, k_retO, k_retV, s_ret_non, s_ret_bl, s_ret_int, s_ret_str, s_ret_con, s_ret_bin, s_ret_neg, s_ret_cmp, s_ret_chain, s_ret_chain3, s_ret_lrng, s_ret_and, s_ret_or, s_ret_not, s_ret_ite, s_ret_tup, s_ret_lst, s_ret_idx, s_ret_slc, s_ret_call, s_ret_callK, s_ret_op0, s_ret_op1, s_ret_callM, s_ret_blt, s_ret_isx, s_ret_errs, s_ret_isk, s_ret_comp, s_app, k_runR, k_runN, for_nil, k_forN, k_forC, k_forB, k_forR, g_nm, g_tp, o_some, noErr_ret, Yes, retK, ret_bind, err_bind, bad_bind, draw_bind, getV, slOf, slO, setAll, parT, List.length_cons, List.length_nil, List.map_cons, List.map_nil, List.getElem?_cons_zero, List.getElem?_cons_succ, List.set_cons_zero, List.set_cons_succ, List.cons_append, List.nil_append, List.replicate_succ, List.replicate_zero]
  exact H f c as bs hp la lb
end
theorem stepL {c : Nat → List D → T D} (hc : c = callF tab WH 10) {ns : List Int} (t : Int) (r : PV.Env) (hr : Inv ns r) :
    ∃ r1, bindTg (.nm 2) (.int t) r = .ret r1 ∧ Yes (goP (Inv ns) (fun _ => False)) (ex c WH u_0 r1) := by
  obtain ⟨x2, x3, x4, x5, x6, x7, x8, x9, x10, x11, x12, x13, x14, x15, x16, rfl⟩ := hr
  refine ⟨_, rfl, ?_⟩
  have e9 : Pk c := by subst hc; exact fun xs h1 h2 h3 => f9 (n := 7) h1 h2 h3
  have e0 : Dr c := by subst hc; exact fun m h1 h2 => dr (m := 8) h1 h2
  have e8 : ∀ {f d : Int}, Pot f d → ∀ p q, Ok f d p → Ok f d q → c 8 [potD f d, stD p, stD q] = .ret (stD (lk p q)) := by subst hc; exact fun h p q op oq => f8 (n := 4) h op oq
  have e21 : ∀ {f d : Int}, Pot f d → ∀ p q, Ok f d p → Ok f d q → c 21 [potD f d, stD p, stD q] = .ret (stD (lk p q)) := by subst hc; exact fun h p q op oq => f21 (n := 7) h op oq
  have e17 : ∀ {f d : Int}, Pot f d → ∃ xs : List Int, (∀ x ∈ xs, f ≤ x ∧ x ≤ d) ∧ c 17 [potD f d] = .ret (.new (xs.map D.int)) := by subst hc; exact fun h => f17 (n := 9) h
  have e16 : ∀ s x, c 16 [stD s, .int x] = .ret (i3D (act s x)) := by subst hc; exact fun s x => f16 (n := 9)
  have e20 : ∀ p q x, c 20 [stD p, stD q, .int x] = .ret (i3D (thn3 p q x)) := by subst hc; exact fun p q x => f20 (n := 8)
  have e15 : ∀ {f d : Int} (ks : List Int), c 15 [potD f d, .lst (ks.map D.int)] = .ret (stD (strS f d ks)) := by subst hc; exact fun ks => f15 (n := 7)
  have e19 : ∀ {f d : Int}, Pot f d → Yes (StV f d) (c 19 [.sta, potD f d]) := by subst hc; exact fun h => f19 (n := 6) h
  have e22 : ∀ {f d : Int}, Pot f d → ∀ {L : List St}, (∀ s ∈ L, Ok f d s) → 1 ≤ L.length → L.length < 100000 → Yes (fun d => d = stD (pr L)) (c 22 [potD f d, .lst (L.map stD), .sta]) := by subst hc; exact fun h L h1 h2 h3 => f22 (n := 3) h h1 h2 h3
  have e18 : Yes (fun d => d ∈ noPots) (c 18 [.sta]) := by subst hc; exact f18 (n := 6)
  have e10 : Yes PotV (c 10 [.sta]) := by subst hc; exact f10 (n := 7)
  have e12 : ∀ f d, Pot f d → Yes IntsV (c 12 [.sta, potD f d, .int 30]) := by subst hc; exact fun f d h => f12 (n := 6) h
  have en : ∀ v ∈ noPots, c 8 [v, .non, .non] = .err 3 := by subst hc; exact f8n
  have ea : ∀ {f d : Int}, Pot f d → ∀ wr, NoSt f d wr → c 8 [potD f d, wr, .non] = .err 4 := by subst hc; exact fun h wr o => f8a (n := 4) h o rfl
  have eb : ∀ {f d : Int}, Pot f d → ∀ s wr, Ok f d s → NoSt f d wr → c 8 [potD f d, stD s, wr] = .err 4 := by subst hc; exact fun h s wr os o => f8b (n := 4) h os o
  refine w0 e10 e12 fun f d as bs hp la lb => ?_
  obtain ⟨oa, _⟩ := str_all hp.lt as
  obtain ⟨ob, _⟩ := str_all hp.lt bs
  have h8 := e8 hp _ _ oa ob
  rw [lk_str hp.lt] at h8
  have h15 := e15 (f := f) (d := d) (as ++ bs)
  rw [List.map_append] at h15
  have h0 := e15 (f := f) (d := d) []
  rw [s0_str hp.lt, List.map_nil] at h0
  refine w4 (by rw [List.length_map, List.length_map]; omega) (e15 as) (e15 bs) h15 h0 h8 ?_
  refine w7 ob e0 (e19 hp) fun L oL hL => ?_
  refine w8 oa oL hL (e8 hp) (e21 hp) (e17 hp) e16 e20 fun x7 x14 s os => ?_
  have z := lk_s0 hp.lt os
  have z1 := e8 hp _ _ (s0_ok hp.lt) os
  have z2 := e8 hp _ _ os (s0_ok hp.lt)
  rw [z.1] at z1
  rw [z.2] at z2
  refine w9 z1 z2 ?_
  refine w10 oa oL (e21 hp) fun x7 => ?_
  refine w12 (e22 hp (L := strS f d as :: L) (fun t ht => by
    rcases List.mem_cons.mp ht with rfl | ht
    · exact oa
    · exact oL t ht) (by rw [List.length_cons]; omega) (by rw [List.length_cons]; omega)) ne_st ?_
  refine w13 os e9 fun wr hw => ?_
  refine w14 e18 fun np hnp => ?_
  exact w16 (kd_fz (np_kd np hnp)) hw.fz (en np hnp) (ea hp wr hw) (eb hp s wr os hw)
theorem body_yes {c : Nat → List D → T D} (hc : c = callF tab WH 10) {ns : List Int} : Yes (fun fl => fl = .rt (.bl true)) (ex c WH dL.body (startE dL.N [.scr ns, .sta])) := by
  rw [bodyL, show startE dL.N [.scr ns, .sta] = [.val (.scr ns), .val .sta, .un, .un, .un, .un, .un, .un, .un, .un, .un, .un, .un, .un, .un, .un, .un] from rfl]
  obtain ⟨three, hr, _⟩ := rng1_T (hi := 3) (by decide) (by decide)
  have L := yes_for (set := bindTg (.nm 2)) (body := ex c WH u_0) (g := D.int) (Inv := fun _ r => Inv ns r) (V := fun _ => False) three (fun t l' r hr => stepL hc t r hr) [.val (.scr ns), .val .sta, .un, .un, .un, .un, .un, .un, .un, .un, .un, .un, .un, .un, .un, .un, .un] ⟨_, _, _, _, _, _, _, _, _, _, _, _, _, _, _, rfl⟩
  have e : ex c WH tL_0 [.val (.scr ns), .val .sta, .un, .un, .un, .un, .un, .un, .un, .un, .un, .un, .un, .un, .un, .un, .un] = forL (bindTg (.nm 2)) (ex c WH u_0) (three.map D.int) [.val (.scr ns), .val .sta, .un, .un, .un, .un, .un, .un, .un, .un, .un, .un, .un, .un, .un, .un, .un] >>= seqK (ex c WH tL_1) := by
    have e0 : ∀ r, ex c WH tL_0 r = ex c WH (.for_ (.nm 2) (.rng1 (.int 3)) u_0) r >>= seqK (ex c WH tL_1) := fun r => s_cons
    rw [e0, s_for]
    simp only [i_rng1, e_int, ret_bind, hr]
  rw [e]
  refine yes_then L (fun fl q => ?_)
  cases fl with
  | nx r =>
    unfold tL_1
    simp only [e_non, e_bl, e_int, e_str, e_var, e_con, e_bin, e_neg, e_cmp, e_chain, e_chain3, e_lrng, e_and, e_or, e_not, e_ite, e_tup, e_lst, e_idx, e_slc, e_call, e_callK, e_blt, e_isk, e_caught, e_isx, e_must, e_errs, q_must, e_op0, e_op1, e_callM, b_op1, b_callM, i_callK, i_op1, o_emp, o_revT, b_var, b_cmp, b_chain, b_chain3, b_and, b_or, b_not, b_yes, b_call, b_callK, b_blt, b_isx, b_errs, b_isk, a_nil, a_cons, r_nil, r_cons, o_nopart, o_part, i_rng1, i_rng2, i_zip, i_enum, i_cap, i_var, i_blt, i_call, i_tup, i_lst, i_idx, i_slc, q_add, q_sub, q_neg, q_lt, q_le, q_gt, q_ge, q_eqI, q_neI, q_isNN, q_isNT, q_isNI, q_isNL, q_isBB, q_isNB, q_isNS, q_isnNN, q_isnNT, q_isnNI, q_isnNL, q_andT, q_andF, q_orT, q_orF, q_not, q_toB, q_part, q_fzI, q_fzB, q_fzS, q_fzN, q_fzT, q_fzL, q_fzW, q_fzSt, q_fzSc, s_nil, s_cons, k_nx, k_rt, k_bk, k_ct, s_asg, s_asgF, s_asgT, k_asg, s_par, s_expr, s_iff, s_retN, s_raise, s_brk, s_cont, s_lams, s_pass, s_frz, k_frzO, k_frzV, s_retV, k_retO, k_retV, s_ret_non, s_ret_bl, s_ret_int, s_ret_str, s_ret_con, s_ret_bin, s_ret_neg, s_ret_cmp, s_ret_chain, s_ret_chain3, s_ret_lrng, s_ret_and, s_ret_or, s_ret_not, s_ret_ite, s_ret_tup, s_ret_lst, s_ret_idx, s_ret_slc, s_ret_call, s_ret_callK, s_ret_op0, s_ret_op1, s_ret_callM, s_ret_blt, s_ret_isx, s_ret_errs, s_ret_isk, s_ret_comp, s_app, k_runR, k_runN, for_nil, k_forN, k_forC, k_forB, k_forR, g_nm, g_tp, o_some, noErr_ret, Yes, retK, ret_bind, err_bind, bad_bind, draw_bind, getV, slOf, slO, setAll, parT, List.length_cons, List.length_nil, List.map_cons, List.map_nil, List.getElem?_cons_zero, List.getElem?_cons_succ, List.set_cons_zero, List.set_cons_succ, List.cons_append, List.nil_append, List.replicate_succ, List.replicate_zero]
    exact yes_ret rfl
  | rt v => exact q.elim
  | bk _ => exact q.elim
  | ct _ => exact q.elim
theorem okT_ : okT tab WH 10 = true := by decide +kernel
theorem okS_ : okS (look (PV.cT tab WH 10)) WH dL.body = true := by decide +kernel
theorem cost_ : cS (look (PV.cT tab WH 10)) WH dL.body ≤ LIM := by decide +kernel
theorem plainG {c : Nat → List D → T D} (hc : c = callF tab WH 10) {ns : List Int} (t : T Fl) (ht : t = ex c WH dL.body (startE dL.N [.scr ns, .sta])) : t.All (fun _ fl => fl = .rt (.bl true)) (fun _ _ => False) LIM := by
  have h1 : Yes (fun fl => fl = .rt (.bl true)) t := by rw [ht]; exact body_yes hc
  have h2 := leS (call := c) (fun f ds => by rw [hc]; exact leF 10 okT_ f ds) dL.body okS_ (startE dL.N [.scr ns, .sta])
  rw [← ht] at h2
  exact all_of h1.all h2 cost_
theorem plain (ns : List Int) (hl : ns.length ≤ 63) : (ex (callF tab WH 10) WH dL.body (startE dL.N [.scr ns, .sta])).All (fun _ fl => fl = .rt (.bl true)) (fun _ _ => False) LIM := plainG rfl _ rfl
end LW
end
section
set_option maxHeartbeats 4000000
open PySem PySem.W PySem.Calls PyProof.Rows
theorem PySem.Challenge.cw_samehowever_k51_linked_holds : PySem.Challenge.rw_samehowever_k51_linked.Holds := by
  w_on; o_law
  refine HandSHeadRun.head_any (r := OpenLaw.row PySem.Challenge.rw_samehowever_k51_linked) (q := view (OpenLaw.row PySem.Challenge.rw_samehowever_k51_linked).prog [38]) (H := LW.hk) (ob := LW.ob) (M := 8000) (loose := LW.loose) (d := HandSHeadRun.topDef (OpenLaw.row PySem.Challenge.rw_samehowever_k51_linked).prog 38) (kwd := []) LW.ob_eq
    (by kernel_rfl) (fun s => by kernel_rfl) LW.run (by kernel_rfl) (by kernel_rfl) (by kernel_rfl) (by rfl) (by first | assumption | decide +kernel) (by decide +kernel) ⟨rfl, rfl, rfl, rfl, rfl, by decide +kernel⟩ ?hw ?hc
  case hw => w_witness2
  case hc =>
    refine LamX.walk_ofTsE (l := PySem.Challenge.rw_samehowever_k51_linked) (n := 63) (k := 44) (x := "script") (CX := fun _ => L2.CX0) rfl (by decide) (by kernel_rfl) ⟨rfl, by decide, by decide⟩ ?F (fun _ _ _ _ _ z => z)
    intro w mg fa h Y G hmg0
    obtain ⟨K, KX, c⟩ := Y
    have hmg : mg ("law" : PySem.Str) = some (.ref fa) := by
      have e : (HandSHeadRun.topDef (OpenLaw.row PySem.Challenge.rw_samehowever_k51_linked).prog 38).name = ("law" : PySem.Str) := by kernel_rfl
      rw [← e]
      exact hmg0
    obtain ⟨fd, hb, hF⟩ := LW.law_facts LW.plain (P := (PySem.Challenge.rw_samehowever_k51_linked).prog) (w := w) KX G hmg c
    refine ⟨K, KX, fd, LW.tf.map (He.cT K), PV.spLaw K (PV.TK K LW.tf), fun p hp => ?_, fun p hp => ?_, fun p hp => ?_, hb, fun H a ns hl _ hT hS => ⟨a, ns, rfl, hS, hl, fun p hp => ?_, fun _ => rfl⟩, hF⟩
    · obtain ⟨q, hq, rfl⟩ := List.mem_map.mp hp
      exact c.empty q hq
    · obtain ⟨q, hq, rfl⟩ := List.mem_map.mp hp
      exact c.out q hq
    · obtain ⟨q, hq, rfl⟩ := List.mem_map.mp hp
      exact codeHd_of_K KX (c.hd q hq)
    · obtain ⟨q, hq, rfl⟩ := List.mem_map.mp hp
      exact hT _ (List.mem_map_of_mem hq)
end
